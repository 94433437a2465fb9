import PyProof.Rows.All
import Wide.All
import OpenK.AllK
import Wide.FinOn
import KE.KStateDown
import HandS.Words
import HandS.Slots
import HandS.SlotsOwn
import HandS.Defaults
import HandS.Head0
import HandS.Head1
import HandS.Head2
import HandS.Head3
import HandS.HeadHook1
import HandS.HeadHook2
import HandS.TupSets
import HandS.SortInts
import HandS.SortRule
import HandS.SetFor
import HandS.Strs
import HandS.More
import HandS.ForMost
import HandS.Star
import HandS.Style
import HandS.Codes
import HandS.HeadNt
import HandS.DictComp
import KE.KTupSum
import KE.DataMinMax
import HandS.TupAny
import HandS.IsInst
import HandS.Wide
import HandS.WideMore
import HandS.Gcd
import HandS.SortKw
import KE.KDictList
import HandS.FStr
import HandS.Text
import HandS.ListItems
import PyProof.TupleOfGen
import KE.KItemsList
import HandS.HeadEnd
import PySem.Challenge.RW_wholerises_k88_whole_or_not_with_papers
set_option Elab.async false
set_option linter.all false
set_option maxRecDepth 100000
set_option maxHeartbeats 1000000
namespace DL
open PySem PySem.Spec PyProof.Rows L2 He
abbrev topAt (i : Nat) : Stmt := PySem.Challenge.pw_wholerises_k88_whole_or_not_with_papers.main.body.getD i (.Pass ⟨0, 0, 0, 0⟩)
abbrev inCls (s : Stmt) : List Stmt := match s with
  | .ClassDef (body := b) .. => b
  | _ => []
abbrev clsAt (i j : Nat) : Stmt := (inCls (topAt i)).getD j (.Pass ⟨0, 0, 0, 0⟩)
/-! ### the head's facts -/
def _root_.He.Fa.ok' (f : Fa) (K : PySem.W.Frag) : Bool := f.ok K
structure FD where
  ad : PySem.W.Frag → Addr
  name : Str
  qual : Str
  st : Stmt
def fnAt (K : PySem.W.Frag) (a : Addr) : FnV := match K.lookup a with
  | some ⟨_, _, .func fd, _⟩ => some (fd.name, fd.qualname, fd.params, fd.body, fd.scope, fd.globals, fd.closure, fd.defaults, fd.builtins)
  | _ => none
def FD.val (d : FD) : FnV := some (d.name, d.qual, defArgs d.st, .stmts (defBody d.st), defScope d.st, mainGlobals, [], .none, builtinsNs)
def FD.ok (K : PySem.W.Frag) (d : FD) : Bool := PySem.W.keepIn K (.ref (d.ad K)) && (match K.lookup (d.ad K) with
  | some ⟨_, _, .func fd, _⟩ => PySem.W.codeIn K fd.code d.qual
  | _ => false)
abbrev cA (K : PySem.W.Frag) : Addr := ga K "Quotient"
def gAd (x : Str) (K : PySem.W.Frag) : Addr := ga K x
def mAd (m : Str) (K : PySem.W.Frag) : Addr := ma K (cA K) m
def pAd (m : Str) (K : PySem.W.Frag) : Addr := match PySem.W.recIn K (ma K (cA K) m) "property" with
  | some (.ref f :: _) => f
  | _ => 0
def clsB (K : PySem.W.Frag) : Bool := PySem.W.plainGet K (cA K) Str.empty && (PySem.W.isClsIn K (cA K) && (PySem.W.plainOver K (cA K) && eqO (PySem.W.findIn K (.ref (cA K)) "__setattr__") (some (some (.builtin "object.__setattr__")))))
def isiB (K : PySem.W.Frag) : Bool := eqO (PySem.W.findIn K (.ref (cA K)) "__class__") (some (some (.builtin "object.__class__"))) && (eqO (PySem.W.specialIn K (.builtin "object.__class__") "__get__") (some (some (.builtin "getset_descriptor.__get__"))) &&
  (decide (PySem.W.takesIn K (.builtin "object.__class__") = some true) && decide (PySem.W.mroIn K (cA K) (.type "object") = some true)))
def oneB (K : PySem.W.Frag) : Bool := decide (PySem.W.kitOne K (.ref (cA K)) (.ref (cA K)) = some true)
def gcdB (K : PySem.W.Frag) : Bool := eqO (PySem.W.nsIn K mainGlobals "gcd") (some (some (.builtin "math.gcd")))
def slotB (f : Str) (i : Nat) (K : PySem.W.Frag) : Bool := eqO (PySem.W.findIn K (.ref (cA K)) f) (some (some (.ref (ma K (cA K) f)))) && (eqO (PySem.W.specialIn K (.ref (ma K (cA K) f)) "__get__") (some (some (.builtin "member_descriptor.__get__"))) &&
  (decide (PySem.W.takesIn K (.ref (ma K (cA K) f)) = some true) && (decide (PySem.W.typeIn K (.ref (ma K (cA K) f)) = some (.type "member_descriptor")) && (decide (PySem.W.slotIn K (ma K (cA K) f) (cA K) = some i) && decide (i < 1000)))))
def propB (m : Str) (K : PySem.W.Frag) : Bool := eqO (PySem.W.findIn K (.ref (cA K)) m) (some (some (.ref (ma K (cA K) m)))) && (eqO (PySem.W.specialIn K (.ref (ma K (cA K) m)) "__get__") (some (some (.builtin "property.__get__"))) &&
  (decide (PySem.W.takesIn K (.ref (ma K (cA K) m)) = some true) && (match PySem.W.recIn K (ma K (cA K) m) "property" with
    | some (.ref _ :: _) => true
    | _ => false)))
def tupF (x : Str) (vs : List Dv) (K : PySem.W.Frag) : Bool := tupB K x vs
def fl0 : List (PySem.W.Frag → Bool) := [clsB, isiB, oneB, gcdB, slotB "own_all" 0, slotB "own_bottoms" 1, slotB "own_members" 2, slotB "own_pairs" 3, slotB "own_text" 4, slotB "own_tops" 5, propB "greatest", propB "common", propB "excess", (Fa.mkr "Quotient").ok', (Fa.glo "Quotient").ok', (Fa.meth "Quotient" "value").ok', (Fa.meth "Quotient" "exponent").ok', (Fa.meth "Quotient" "exchanged").ok', (Fa.free "len").ok', (Fa.free "sum").ok']
def fl1 : List (PySem.W.Frag → Bool) := [(Fa.free "max").ok', (Fa.free "min").ok', (Fa.free "abs").ok', (Fa.free "all").ok', (Fa.free "any").ok', (Fa.free "sorted").ok', (Fa.free "list").ok', (Fa.free "tuple").ok', (Fa.free "int").ok', (Fa.free "range").ok', (Fa.free "enumerate").ok', (Fa.free "isinstance").ok', (Fa.free "bool").ok', (Fa.free "set").ok', (Fa.int "MAX_PRIME" 1000000).ok', (Fa.int "MAX_MEMBER" 60).ok', (Fa.int "MAX_SIDE" 8).ok', (Fa.int "MAX_COMMON" 2520).ok', (Fa.int "MOST_FACTORIAL" 600).ok', (Fa.int "MOST_INDEX" 1000000000000000000000000000000).ok']
def fl2 : List (PySem.W.Frag → Bool) := [(Fa.int "MAX_BROKEN" 100).ok', (Fa.int "MAX_PRIMED" 1000).ok', (Fa.str "STAIR" "stair").ok', (Fa.str "EXCESS" "excess").ok', tupF "START" [.int 0, .int 1], (Fa.glo "START").ok', tupF "LAST_END" [.int 1, .int 1], (Fa.glo "LAST_END").ok', (Fa.glo "is_plain").ok', (Fa.glo "is_within").ok', (Fa.glo "require_within").ok', (Fa.glo "factors_in").ok', (Fa.glo "is_prime_in").ok', (Fa.glo "multiple_of").ok', (Fa.glo "is_prime").ok', (Fa.glo "require_prime").ok', (Fa.glo "lowest_of").ok', (Fa.glo "how_often").ok', (Fa.glo "left_of").ok', (Fa.glo "tells_row").ok']
def fl3 : List (PySem.W.Frag → Bool) := [(Fa.glo "is_side").ok', (Fa.glo "side_text").ok', (Fa.glo "counted").ok', (Fa.glo "factorial_of").ok', (Fa.glo "product_of_factorials").ok', (Fa.glo "require_row").ok', (Fa.glo "value_of").ok', (Fa.glo "exponent_of_row").ok', (Fa.glo "jump_in").ok', (Fa.glo "places_over").ok', (Fa.glo "stairs_in").ok', (Fa.glo "depths_in").ok', (Fa.glo "least_depth").ok', (Fa.glo "fault_in").ok', (Fa.glo "is_whole_in").ok', (Fa.glo "is_whole").ok', (Fa.glo "fault").ok', (Fa.glo "primes_up_to").ok', (Fa.glo "broken_in").ok', (Fa.glo "is_broken_in").ok']
def fl4 : List (PySem.W.Frag → Bool) := [(Fa.glo "first_broken").ok', (Fa.glo "broken_primes").ok', (Fa.glo "exponents_at").ok', (Fa.glo "witness_by").ok', (Fa.glo "witness").ok', (Fa.glo "is_witness").ok', (Fa.glo "_law_grab").ok', (Fa.glo "_law_one_of").ok', (Fa.glo "_law_without_shared").ok', (Fa.glo "_law_is_row_let").ok', (Fa.glo "_law_told_balanced").ok', (Fa.glo "_law_any_balanced").ok', (Fa.glo "_law_row_drawn").ok', (Fa.glo "_law_common").ok', (Fa.glo "_law_multiple").ok', (Fa.glo "_law_lowest").ok', (Fa.glo "_law_factorial").ok', (Fa.glo "_law_number_of").ok', (Fa.glo "_law_exponent").ok', (Fa.glo "_law_is_prime").ok']
def fl5 : List (PySem.W.Frag → Bool) := [(Fa.glo "_law_next_prime").ok', (Fa.glo "_law_depth").ok', (Fa.glo "_law_by_size").ok', (Fa.glo "_law_stairs").ok', (Fa.glo "_law_is_whole").ok', (Fa.glo "_law_fault_due").ok', (Fa.glo "_law_broken_at").ok', (Fa.glo "_law_numbers_right").ok', (Fa.glo "_law_witness_right").ok', (Fa.glo "_law_great_right").ok', (Fa.glo "_law_right").ok', (Fa.glo "_law_bag").ok', (Fa.glo "law").ok']
def fn0 : List FD := [⟨gAd "is_plain", "is_plain", "is_plain", topAt 11⟩, ⟨gAd "is_within", "is_within", "is_within", topAt 13⟩, ⟨gAd "require_within", "require_within", "require_within", topAt 14⟩, ⟨gAd "factors_in", "factors_in", "factors_in", topAt 15⟩, ⟨gAd "is_prime_in", "is_prime_in", "is_prime_in", topAt 16⟩, ⟨gAd "multiple_of", "multiple_of", "multiple_of", topAt 17⟩, ⟨gAd "is_prime", "is_prime", "is_prime", topAt 18⟩, ⟨gAd "require_prime", "require_prime", "require_prime", topAt 19⟩, ⟨gAd "lowest_of", "lowest_of", "lowest_of", topAt 21⟩, ⟨gAd "how_often", "how_often", "how_often", topAt 29⟩, ⟨gAd "left_of", "left_of", "left_of", topAt 30⟩, ⟨gAd "tells_row", "tells_row", "tells_row", topAt 31⟩, ⟨gAd "is_side", "is_side", "is_side", topAt 32⟩, ⟨gAd "side_text", "side_text", "side_text", topAt 34⟩, ⟨gAd "counted", "counted", "counted", topAt 33⟩, ⟨gAd "factorial_of", "factorial_of", "factorial_of", topAt 35⟩, ⟨gAd "product_of_factorials", "product_of_factorials", "product_of_factorials", topAt 36⟩, ⟨gAd "require_row", "require_row", "require_row", topAt 41⟩, ⟨gAd "value_of", "value_of", "value_of", topAt 42⟩, ⟨gAd "exponent_of_row", "exponent_of_row", "exponent_of_row", topAt 43⟩]
def fn1 : List FD := [⟨gAd "jump_in", "jump_in", "jump_in", topAt 46⟩, ⟨gAd "places_over", "places_over", "places_over", topAt 47⟩, ⟨gAd "stairs_in", "stairs_in", "stairs_in", topAt 48⟩, ⟨gAd "depths_in", "depths_in", "depths_in", topAt 49⟩, ⟨gAd "least_depth", "least_depth", "least_depth", topAt 50⟩, ⟨gAd "fault_in", "fault_in", "fault_in", topAt 57⟩, ⟨gAd "is_whole_in", "is_whole_in", "is_whole_in", topAt 58⟩, ⟨gAd "is_whole", "is_whole", "is_whole", topAt 59⟩, ⟨gAd "fault", "fault", "fault", topAt 60⟩, ⟨gAd "primes_up_to", "primes_up_to", "primes_up_to", topAt 61⟩, ⟨gAd "broken_in", "broken_in", "broken_in", topAt 62⟩, ⟨gAd "is_broken_in", "is_broken_in", "is_broken_in", topAt 63⟩, ⟨gAd "first_broken", "first_broken", "first_broken", topAt 64⟩, ⟨gAd "broken_primes", "broken_primes", "broken_primes", topAt 65⟩, ⟨gAd "exponents_at", "exponents_at", "exponents_at", topAt 66⟩, ⟨gAd "witness_by", "witness_by", "witness_by", topAt 67⟩, ⟨gAd "witness", "witness", "witness", topAt 68⟩, ⟨gAd "is_witness", "is_witness", "is_witness", topAt 69⟩, ⟨gAd "_law_grab", "_law_grab", "_law_grab", topAt 72⟩, ⟨gAd "_law_one_of", "_law_one_of", "_law_one_of", topAt 73⟩]
def fn2 : List FD := [⟨gAd "_law_without_shared", "_law_without_shared", "_law_without_shared", topAt 74⟩, ⟨gAd "_law_is_row_let", "_law_is_row_let", "_law_is_row_let", topAt 75⟩, ⟨gAd "_law_told_balanced", "_law_told_balanced", "_law_told_balanced", topAt 76⟩, ⟨gAd "_law_any_balanced", "_law_any_balanced", "_law_any_balanced", topAt 77⟩, ⟨gAd "_law_row_drawn", "_law_row_drawn", "_law_row_drawn", topAt 78⟩, ⟨gAd "_law_common", "_law_common", "_law_common", topAt 79⟩, ⟨gAd "_law_multiple", "_law_multiple", "_law_multiple", topAt 80⟩, ⟨gAd "_law_lowest", "_law_lowest", "_law_lowest", topAt 81⟩, ⟨gAd "_law_factorial", "_law_factorial", "_law_factorial", topAt 82⟩, ⟨gAd "_law_number_of", "_law_number_of", "_law_number_of", topAt 83⟩, ⟨gAd "_law_exponent", "_law_exponent", "_law_exponent", topAt 84⟩, ⟨gAd "_law_is_prime", "_law_is_prime", "_law_is_prime", topAt 85⟩, ⟨gAd "_law_next_prime", "_law_next_prime", "_law_next_prime", topAt 86⟩, ⟨gAd "_law_depth", "_law_depth", "_law_depth", topAt 87⟩, ⟨gAd "_law_by_size", "_law_by_size", "_law_by_size", topAt 88⟩, ⟨gAd "_law_stairs", "_law_stairs", "_law_stairs", topAt 89⟩, ⟨gAd "_law_is_whole", "_law_is_whole", "_law_is_whole", topAt 90⟩, ⟨gAd "_law_fault_due", "_law_fault_due", "_law_fault_due", topAt 91⟩, ⟨gAd "_law_broken_at", "_law_broken_at", "_law_broken_at", topAt 92⟩, ⟨gAd "_law_numbers_right", "_law_numbers_right", "_law_numbers_right", topAt 93⟩]
def fn3 : List FD := [⟨gAd "_law_witness_right", "_law_witness_right", "_law_witness_right", topAt 94⟩, ⟨gAd "_law_great_right", "_law_great_right", "_law_great_right", topAt 95⟩, ⟨gAd "_law_right", "_law_right", "_law_right", topAt 96⟩, ⟨gAd "_law_bag", "_law_bag", "_law_bag", topAt 71⟩, ⟨gAd "law", "law", "law", topAt 97⟩, ⟨pAd "greatest", "greatest", "Quotient.greatest", clsAt 38 7⟩, ⟨pAd "common", "common", "Quotient.common", clsAt 38 8⟩, ⟨pAd "excess", "excess", "Quotient.excess", clsAt 38 9⟩, ⟨mAd "value", "value", "Quotient.value", clsAt 38 12⟩, ⟨mAd "exponent", "exponent", "Quotient.exponent", clsAt 38 13⟩, ⟨mAd "exchanged", "exchanged", "Quotient.exchanged", clsAt 38 16⟩, ⟨mAd "__init__", "__init__", "Quotient.__init__", clsAt 38 1⟩]
def obsF (K : PySem.W.Frag) : Bool × List (List FnV) := ((fl0.all fun f => f K) && ((fl1.all fun f => f K) && ((fl2.all fun f => f K) && ((fl3.all fun f => f K) && ((fl4.all fun f => f K) && ((fl5.all fun f => f K) && ((fn0.all (FD.ok K)) && ((fn1.all (FD.ok K)) && ((fn2.all (FD.ok K)) && ((fn3.all (FD.ok K))))))))))), [fn0.map fun d => fnAt K (d.ad K), fn1.map fun d => fnAt K (d.ad K), fn2.map fun d => fnAt K (d.ad K), fn3.map fun d => fnAt K (d.ad K)])
def valF : Bool × List (List FnV) := (true, [fn0.map FD.val, fn1.map FD.val, fn2.map FD.val, fn3.map FD.val])
/-- the addresses that the module's names reach in five steps, none left out, some told twice -/
def rf (g : Addr → Option Obj) (as : List Addr) : List Addr := as.flatMap fun a => match g a with
  | some o => He.refsD o
  | none => []
def as5 (g : Addr → Option Obj) : List Addr := mainGlobals :: (rf g [mainGlobals] ++ (rf g (rf g [mainGlobals]) ++ (rf g (rf g (rf g [mainGlobals])) ++ (rf g (rf g (rf g (rf g [mainGlobals]))) ++ rf g (rf g (rf g (rf g (rf g [mainGlobals]))))))))
def hkF : PySem.W.Hook where
  α := Bool × List (List FnV)
  obs := fun s => obsF (frG s.heap.get? (as5 s.heap.get?))
  val := fun _ => valF
  says := fun _ h => ∃ K : PySem.W.Frag, K.In h ∧ obsF K = valF
  of := fun _ _ e => ⟨_, frG_in, e⟩
  keeps := fun _ _ _ ⟨K, hK, c⟩ k => ⟨K, PySem.W.Frag.In.keeps hK k, c⟩
def obF (s : PySem.W.SharedT) : Bool × List (List FnV) := obsF (frG (HandSHeadRun.getT s) (as5 (HandSHeadRun.getT s)))
theorem obF_eq (s : PySem.W.SharedT) : obF s = hkF.obs s.abs := by
  have e : HandSHeadRun.getT s = s.abs.heap.get? := funext (HandSHeadRun.getT_eq s)
  unfold obF
  rw [e]; rfl
end DL

set_option maxHeartbeats 0
namespace HH
open PySem PySem.W PySem.Calls PyProof.Rows
abbrev R : OpenRow := OpenLaw.row PySem.Challenge.rw_wholerises_k88_whole_or_not_with_papers
def names0 : List PySem.Str := ["_wall", "RowError", "InvalidRow", "InvalidOperation", "InvalidNumber", "TooMany", "MAX_PRIME", "FAR", "is_plain", "is_integer", "is_within", "require_within", "factors_in", "is_prime_in", "multiple_of", "is_prime", "require_prime", "lowest_of", "MAX_MEMBER", "MAX_SIDE"]
def names1 : List PySem.Str := ["MAX_COMMON", "MOST_FACTORIAL", "MOST_INDEX", "MOST_STEP", "how_often", "left_of", "tells_row", "is_side", "counted", "side_text", "factorial_of", "product_of_factorials", "product_of_next", "Quotient", "quotient_or_none", "row_or_refuse", "require_row", "value_of", "exponent_of_row", "START"]
def names2 : List PySem.Str := ["jump_in", "places_over", "stairs_in", "depths_in", "least_depth", "MAX_BROKEN", "MAX_PRIMED", "STAIR", "EXCESS", "LAST_END", "fault_in", "is_whole_in", "is_whole", "fault", "primes_up_to", "broken_in", "is_broken_in", "first_broken", "broken_primes", "exponents_at"]
def names3 : List PySem.Str := ["witness_by", "witness", "is_witness", "_law_bag", "_law_grab", "_law_one_of", "_law_without_shared", "_law_is_row_let", "_law_told_balanced", "_law_any_balanced", "_law_row_drawn", "_law_common", "_law_multiple", "_law_lowest", "_law_factorial", "_law_number_of", "_law_exponent", "_law_is_prime", "_law_next_prime", "_law_depth"]
def names4 : List PySem.Str := ["_law_by_size", "_law_stairs", "_law_is_whole", "_law_fault_due", "_law_broken_at", "_law_numbers_right", "_law_witness_right", "_law_great_right", "_law_right"]
def names : List PySem.Str := names0 ++ names1 ++ names2 ++ names3 ++ names4
abbrev qv : Program := view R.prog [0, 97]
/-- the state ahead of the top, the state behind it -/
noncomputable def whole (w : World) : Option (Shared × SharedT) := HandSHeadRun.wholeF (fun p => HandSHeadRun.stepQ (HandSHeadRun.denQ HandSHeadRun.tabQ) p w) HandSHeadRun.fenceQ 20000 R.prog
def lookA (x : Shared × SharedT) : Bool := HandSHeadRun.looksF R.prog x.1.heap x.2.abs
noncomputable def lookB (x : Shared × SharedT) := HandSHeadRun.seenQ qv names (importedModules R.prog.main.body) (fun s => xlAt qv [] s && recOk R.toRowW.records s) x.2.abs
theorem runA (w : World) : (whole w).map lookA = some true := by
  kernel_rfl
theorem runB (w : World) : (whole w).map lookB = some (openGood qv names) := by
  kernel_rfl
theorem runC (w : World) : (whole w).map (fun x => DL.obF x.2) = some DL.valF := by
  kernel_rfl
theorem comb {α β γ δ : Type} : ∀ {o : Option α} {f : α → β} {g : α → γ} {k : α → δ} {b : β} {c : γ} {d : δ}, o.map f = some b → o.map g = some c → o.map k = some d → o.map (fun x => (f x, g x, k x)) = some (b, c, d)
  | none, _, _, _, _, _, _, h, _, _ => nomatch h
  | some x, f, g, k, b, c, d, h1, h2, h3 => by
    have e1 : f x = b := Option.some.inj h1
    have e2 : g x = c := Option.some.inj h2
    have e3 : k x = d := Option.some.inj h3
    show some (f x, g x, k x) = _
    rw [e1, e2, e3]
theorem run (w : World) : HandSHeadRun.RunEqI R qv DL.hkF DL.obF 20000 names w := comb (o := whole w) (f := lookA) (g := lookB) (k := fun x => DL.obF x.2) (runA w) (runB w) (runC w)
end HH

set_option maxHeartbeats 1000000
/-! sets of tuples with up to 1200 elements: the tables -/
namespace DL
open PySem PySem.Spec PyProof.Rows L2
def Mk5 (m : Nat) : Prop := m ∈ [7, 31, 127, 511, 2047]
/-- the slots met, as bits -/
def orb (m : Nat) : Nat → Nat → Nat → Nat
  | 0, _, acc => acc
  | k + 1, c, acc => orb m k ((c * 5 + 1) % (m + 1)) (acc ||| 2 ^ c)
theorem lcgI_front (m c : Nat) : ∀ b, lcgI m c (b + 1) = lcgI m ((c * 5 + 1) % (m + 1)) b
  | 0 => rfl
  | b + 1 => by
    show (lcgI m c (b + 1) * 5 + 1) % (m + 1) = (lcgI m ((c * 5 + 1) % (m + 1)) b * 5 + 1) % (m + 1)
    rw [lcgI_front m c b]
theorem orb_bit (m j : Nat) : ∀ k c acc, (orb m k c acc).testBit j = true → acc.testBit j = true ∨ ∃ b, b < k ∧ lcgI m c b = j
  | 0, c, acc, h => .inl h
  | k + 1, c, acc, h => by
    rcases orb_bit m j k _ _ h with h | ⟨b, hb, e⟩
    · rw [Nat.testBit_or, Nat.testBit_two_pow, Bool.or_eq_true, decide_eq_true_eq] at h
      rcases h with h | h
      · exact .inl h
      · exact .inr ⟨0, Nat.succ_pos _, h⟩
    · exact .inr ⟨b + 1, by omega, by rw [lcgI_front]; exact e⟩
theorem orb_full : ([7, 31, 127, 511, 2047].all fun m => orb m (m + 1) 0 0 == 2 ^ (m + 1) - 1) = true := by decide +kernel
theorem cyc_back : ([7, 31, 127, 511, 2047].all fun m => lcgN m (m + 1) == 0) = true := by decide +kernel
theorem lcgI_zero (m k : Nat) : lcgI m 0 k = lcgN m k := by
  have := lcgN_add m 0 k
  rw [Nat.zero_add] at this
  exact this
theorem cyc_all {m : Nat} (hm : Mk5 m) {j : Nat} (hj : j ≤ m) : ∃ b, b ≤ m ∧ lcgN m b = j := by
  have e := beq_iff_eq.mp (List.all_eq_true.mp orb_full m hm)
  have hb : (orb m (m + 1) 0 0).testBit j = true := by
    rw [e, Nat.testBit_two_pow_sub_one, decide_eq_true_eq]
    omega
  rcases orb_bit m j _ _ _ hb with h | ⟨b, h, e2⟩
  · rw [Nat.zero_testBit] at h; cases h
  · exact ⟨b, by omega, by rw [← lcgI_zero]; exact e2⟩
theorem cyc_per {m : Nat} (hm : Mk5 m) : ∀ k, lcgN m (m + 1 + k) = lcgN m k
  | 0 => beq_iff_eq.mp (List.all_eq_true.mp cyc_back m hm)
  | k + 1 => congrArg (fun z => (z * 5 + 1) % (m + 1)) (cyc_per hm k)
theorem cyc_to {m i j : Nat} (hm : Mk5 m) (hi : i ≤ m) (hj : j ≤ m) : ∃ k, k ≤ m ∧ lcgI m i k = j := by
  obtain ⟨a, ha, rfl⟩ := cyc_all hm hi
  obtain ⟨b, hb, rfl⟩ := cyc_all hm hj
  by_cases c : a ≤ b
  · refine ⟨b - a, by omega, ?_⟩
    rw [lcgN_add]
    congr 1; omega
  · refine ⟨m + 1 + b - a, by omega, ?_⟩
    rw [lcgN_add, show a + (m + 1 + b - a) = m + 1 + b by omega, cyc_per hm]
theorem run_to {m j : Nat} (hm : Mk5 m) (h : Int) (hj : j ≤ m) : ∃ n, n ≤ m + 12 ∧ runI m (SetTable.bits h) n = j := by
  obtain ⟨k, hk, e⟩ := cyc_to hm (runI_le m (SetTable.bits h) 12) hj
  refine ⟨12 + k, by omega, ?_⟩
  rw [runI_tail (bits_lt h), e]
theorem way_to {m j : Nat} (hm : Mk5 m) (h : Int) (hj : j ≤ m) : ∃ k, k < 10 * SetTable.turns m ∧ way m h k = j := by
  obtain ⟨n, hn, e⟩ := run_to hm h hj
  obtain ⟨k, hk, e2⟩ := run_nth m (SetTable.bits h) n
  refine ⟨k, by unfold SetTable.turns; omega, ?_⟩
  show (nth m (runAt m (SetTable.bits h % (m + 1)) (SetTable.bits h)) k).j = j
  rw [e2]; exact e
theorem way_bd {m : Nat} (h : Int) (k : Nat) : way m h k ≤ m := by
  have hi : SetTable.bits h % (m + 1) ≤ m := Nat.le_of_lt_succ (Nat.mod_lt _ (Nat.succ_pos _))
  obtain ⟨r1, r2, r3⟩ := runEnd_bd hi
  have q := nth_in (m := m) k (runAt m (SetTable.bits h % (m + 1)) (SetTable.bits h)) (by
    show SetTable.bits h % (m + 1) + (SetTable.runEnd m (SetTable.bits h % (m + 1)) - SetTable.bits h % (m + 1)) ≤ m
    omega)
  show (nth m (runAt m (SetTable.bits h % (m + 1)) (SetTable.bits h)) k).j ≤ m
  omega
/-- a good table over the hashes hs -/
structure Tbl (t : SetTable) (hs : List Int) : Prop where
  ris : Ris t.place.toList
  dm : t.dummies = #[]
  sz : t.place.toList.length = hs.length
  mok : Mk5 t.mask
  bd : ∀ j ∈ t.place.toList, j ≤ t.mask
  reach : ∀ (i : Nat) (h : Int) (j : Nat), hs[i]? = some h → t.place.toList[i]? = some j → ∃ k, way t.mask h k = j ∧ ∀ c, c < k → way t.mask h c ∈ t.place.toList
/-- K is the first empty step of h's way -/
structure Emp (t : SetTable) (h : Int) (K : Nat) : Prop where
  lt : K < 10 * SetTable.turns t.mask
  out : way t.mask h K ∉ t.place.toList
  inn : ∀ c, c < K → way t.mask h c ∈ t.place.toList
theorem Tbl.emp {t : SetTable} {hs : List Int} (T : Tbl t hs) (hl : hs.length ≤ t.mask) (h : Int) : ∃ K, Emp t h K := by
  obtain ⟨j, hj, hn⟩ := st_missing t.place.toList (t.mask + 1) (by rw [T.sz]; omega)
  obtain ⟨k, hk, e⟩ := way_to T.mok h (show j ≤ t.mask by omega)
  obtain ⟨K, h1, h2, h3⟩ := st_least (p := fun k => way t.mask h k ∉ t.place.toList) k (by show way t.mask h k ∉ _; rw [e]; exact hn)
  exact ⟨K, by omega, h2, fun c hc => Classical.byContradiction fun z => h3 c hc z⟩
theorem Emp.past {t : SetTable} {hs : List Int} {h : Int} {K i j : Nat} (E : Emp t h K) (T : Tbl t hs) (hi : hs[i]? = some h) (hj : t.place.toList[i]? = some j) : ∃ k, k < K ∧ way t.mask h k = j := by
  obtain ⟨k, e, hb⟩ := T.reach i h j hi hj
  refine ⟨k, Nat.lt_of_not_le fun c => ?_, e⟩
  rcases Nat.lt_or_eq_of_le c with c | c
  · exact E.out (hb K c)
  · refine E.out ?_
    rw [c, e]; exact List.mem_of_getElem? hj
theorem Tbl.put {t : SetTable} {hs : List Int} (T : Tbl t hs) {h : Int} {K : Nat} (E : Emp t h K) :
    SetTable.below t.place (way t.mask h K) ≤ hs.length ∧ Tbl (t.put (way t.mask h K)).1 (hs.take (SetTable.below t.place (way t.mask h K)) ++ h :: hs.drop (SetTable.below t.place (way t.mask h K))) ∧ (t.put (way t.mask h K)).1.fill = hs.length + 1 := by
  have hw := way_bd (m := t.mask) h K
  have hout := E.out
  generalize ej : way t.mask h K = j at hw hout ⊢
  have c1 : SetTable.below t.place j ≤ hs.length := by
    have := (below_cut T.ris j).1
    have e := T.sz
    rw [Array.length_toList] at e
    omega
  have c2 : SetTable.below t.place j ≤ t.place.toList.length := by rw [T.sz]; exact c1
  have np : t.place[SetTable.below t.place j]? ≠ some j := fun z => by
    rw [← Array.getElem?_toList] at z
    exact hout (List.mem_of_getElem? z)
  have pl := put_place t j
  have mem : ∀ x, x ∈ (t.put j).1.place.toList ↔ x = j ∨ x ∈ t.place.toList := fun x => by rw [pl]; exact mem_ins
  have len : (t.put j).1.place.toList.length = hs.length + 1 := by rw [pl, len_ins _ c2, T.sz]
  refine ⟨c1, ⟨ris_insert T.ris np, put_dm T.dm j, ?_, T.mok, fun x hx => ?_, fun i h' j' e1 e2 => ?_⟩, ?_⟩
  · rw [len, len_ins _ c1]
  · rcases (mem x).mp hx with rfl | hx
    · exact hw
    · exact T.bd x hx
  · have old : ∀ i', hs[i']? = some h' → t.place.toList[i']? = some j' → ∃ k, way t.mask h' k = j' ∧ ∀ c, c < k → way t.mask h' c ∈ (t.put j).1.place.toList := fun i' a1 a2 => by
      obtain ⟨k, e, z⟩ := T.reach i' h' j' a1 a2
      exact ⟨k, e, fun c hc => (mem _).mpr (.inr (z c hc))⟩
    rw [tins_get hs c1] at e1
    rw [pl, tins_get _ c2] at e2
    show ∃ k, way t.mask h' k = j' ∧ ∀ c, c < k → way t.mask h' c ∈ (t.put j).1.place.toList
    split at e1
    · rename_i c
      rw [if_pos c] at e2
      exact old i e1 e2
    · rename_i c
      rw [if_neg c] at e2
      split at e1
      · rename_i d
        rw [if_pos d] at e2
        cases e1; cases e2
        exact ⟨K, ej, fun c hc => (mem _).mpr (.inr (E.inn c hc))⟩
      · rename_i d
        rw [if_neg d] at e2
        exact old (i - 1) e1 e2
  · show (t.put j).1.place.size + (t.put j).1.dummies.size = hs.length + 1
    rw [← Array.length_toList, len, put_dm T.dm j]; rfl
/-! laying anew -/
theorem free_to {m : Nat} (hm : Mk5 m) (owner : Array (Option Nat)) (h : Int) {j : Nat} (hj : j ≤ m) (hf : oAt owner j = none) :
    ∃ K, SetTable.layClean.free m owner (SetTable.turns m) (SetTable.bits h % (m + 1)) (SetTable.bits h) = some (way m h K) ∧ oAt owner (way m h K) = none ∧ ∀ c, c < K → oAt owner (way m h c) ≠ none := by
  obtain ⟨n, hn, e⟩ := run_to hm h hj
  have hw : oAt owner (way m h (off m (SetTable.bits h % (m + 1)) (SetTable.bits h) n)) = none := by
    show oAt owner (nth m (runAt m (SetTable.bits h % (m + 1)) (SetTable.bits h)) (off m (SetTable.bits h % (m + 1)) (SetTable.bits h) n)).j = none
    rw [nth_off, itL_run]
    show oAt owner (runI m (SetTable.bits h) n) = none
    rw [e]; exact hf
  obtain ⟨K, k1, k2, k3⟩ := st_least (p := fun k => oAt owner (way m h k) = none) _ hw
  refine ⟨K, free_spec m owner (SetTable.turns m) n _ _ K (by unfold SetTable.turns; omega) k1 (fun k hk => ?_) ?_, k2, k3⟩
  · have := k3 k hk
    cases z : oAt owner (way m h k) with
    | none => exact absurd z this
    | some x => rfl
  · show (oAt owner (way m h K)).isNone = true
    rw [k2]; rfl
theorem own_add {m : Nat} (hm : Mk5 m) {done : List Int} {owner : Array (Option Nat)} (W : Own m done owner) (hl : done.length ≤ m) (h : Int) :
    ∃ j, SetTable.layClean.free m owner (SetTable.turns m) (SetTable.bits h % (m + 1)) (SetTable.bits h) = some j ∧ Own m (done ++ [h]) (owner.setIfInBounds j (some done.length)) := by
  obtain ⟨ps, hps, hin⟩ := W.ps
  obtain ⟨j0, h0, hn0⟩ := st_missing ps (m + 1) (by omega)
  have f0 : oAt owner j0 = none := Classical.byContradiction fun z => hn0 (hin j0 (by omega) z)
  obtain ⟨K, e1, e2, e3⟩ := free_to hm owner h (show j0 ≤ m by omega) f0
  have hjm := way_bd (m := m) h K
  generalize ej : way m h K = j at e1 e2 hjm
  have self := oAt_set_self (some done.length) (show j < owner.size by rw [W.sz]; omega)
  have get : ∀ i, oAt (owner.setIfInBounds j (some done.length)) i = if i = j then some done.length else oAt owner i := fun i => by
    by_cases c : i = j
    · rw [if_pos c, c, self]
    · rw [if_neg c, oAt_set_ne _ c]
  have up : ∀ i, oAt owner i ≠ none → oAt (owner.setIfInBounds j (some done.length)) i ≠ none := fun i hi => by
    rw [get]; split
    · simp
    · exact hi
  refine ⟨j, e1, by rw [Array.size_setIfInBounds]; exact W.sz, fun i k hi e => ?_, fun k hk => ?_, j :: ps, by simp [hps], fun i hi e => ?_⟩
  · rw [get] at e
    split at e
    · rename_i c
      cases e
      refine ⟨h, K, by simp, by rw [ej, c], fun c hc => up _ (e3 c hc)⟩
    · obtain ⟨h', K', a1, a2, a3⟩ := W.at_ i k hi e
      exact ⟨h', K', by rw [List.getElem?_append_left (List.getElem?_eq_some_iff.mp a1).1]; exact a1, a2, fun c hc => up _ (a3 c hc)⟩
  · rw [List.length_append, List.length_singleton] at hk
    by_cases c : k < done.length
    · obtain ⟨i, hi, e⟩ := W.all k c
      refine ⟨i, hi, ?_⟩
      rw [get, if_neg (fun z => by rw [z, e2] at e; cases e)]; exact e
    · exact ⟨j, hjm, by rw [self]; congr 1; omega⟩
  · rw [get] at e
    split at e
    · rename_i c
      rw [c]; exact List.mem_cons_self
    · exact List.mem_cons_of_mem _ (hin i hi e)
theorem own_fold {m : Nat} (hm : Mk5 m) : ∀ (rest done : List Int) (owner : Array (Option Nat)), Own m done owner → done.length + rest.length ≤ m →
    ∃ owner', rest.foldl (stepF m) (some (owner, done.length)) = some (owner', done.length + rest.length) ∧ Own m (done ++ rest) owner'
  | [], done, owner, W, _ => ⟨owner, rfl, by rw [List.append_nil]; exact W⟩
  | h :: rest, done, owner, W, hl => by
    have hl : done.length + (rest.length + 1) ≤ m := hl
    obtain ⟨j, e, W'⟩ := own_add hm W (by omega) h
    obtain ⟨o, f, W2⟩ := own_fold hm rest (done ++ [h]) _ W' (by simp; omega)
    refine ⟨o, ?_, by rw [List.append_assoc] at W2; exact W2⟩
    rw [List.foldl_cons, stepF_some e]
    rw [List.length_append, List.length_singleton] at f
    rw [f, List.length_cons]
    congr 2; omega
theorem lay_all {m : Nat} (hm : Mk5 m) (hs : Array Int) (hn : hs.size ≤ m) : ∃ owner, SetTable.layClean m hs = some owner ∧ Own m hs.toList owner := by
  obtain ⟨o, f, W⟩ := own_fold hm hs.toList [] _ (Own.init m) (by simpa using hn)
  refine ⟨o, ?_, W⟩
  rw [layClean_eq]
  have f' : hs.toList.foldl (stepF m) (some (Array.replicate (m + 1) none, 0)) = some (o, 0 + hs.toList.length) := f
  rw [f']; rfl
/-- the table laid anew: order tells whose turn it was -/
theorem relay_tbl (t : SetTable) (hs : Array Int) {wanted M : Nat} (hw : SetTable.sizeAbove wanted - 1 = M) (hM : Mk5 M) (hn : hs.size ≤ M) :
    ∃ t' order, t.relaid hs wanted = some (t', order) ∧ order.toList.Perm (List.range hs.size) ∧ Tbl t' (order.toList.map fun i => hs.getD i 0) ∧ t'.mask = M ∧ t'.led = t.led ∧ t'.plain = t.plain := by
  obtain ⟨owner, e, W⟩ := lay_all hM hs hn
  have hr : t.relaid hs wanted = some (tabOf t M owner, ((liveOf M owner).map (·.2)).toArray) := by rw [relaid_eq, hw, e]; rfl
  obtain ⟨r1, r2⟩ := ris_live (fun j => owner.getD j none) (List.range (M + 1)) (by unfold Ris; exact List.pairwise_lt_range)
  have r1 : Ris ((liveOf M owner).map (·.1)) := r1
  have r2 : ∀ x ∈ (liveOf M owner).map (·.1), x ∈ List.range (M + 1) := r2
  have hz : hs.toList.length = hs.size := rfl
  have full : ∀ k, k < hs.size → k ∈ (liveOf M owner).map (·.2) := fun k hk => by
    obtain ⟨j, b1, b2⟩ := W.all k (by rw [hz]; exact hk)
    exact List.mem_map.mpr ⟨(j, k), (mem_live W.sz).mpr ⟨b1, b2⟩, rfl⟩
  have nd : ((liveOf M owner).map (·.1)).Nodup := List.Pairwise.imp (fun h => Nat.ne_of_lt h) r1
  have hlen : (liveOf M owner).length = hs.size := by
    obtain ⟨ps, p1, p2⟩ := W.ps
    have a := nat_nodup_len ((liveOf M owner).map (·.1)) ps nd fun x hx => by
      obtain ⟨⟨y, k⟩, hq, rfl⟩ := List.mem_map.mp hx
      obtain ⟨b1, b2⟩ := (mem_live W.sz).mp hq
      exact p2 y b1 (by show oAt owner y ≠ none; rw [b2]; simp)
    have b := nat_nodup_len (List.range hs.size) _ List.nodup_range fun k hk => full k (List.mem_range.mp hk)
    rw [List.length_map] at a b
    rw [List.length_range] at b
    omega
  refine ⟨_, _, hr, perm_range _ _ (by rw [← hlen]; simp) (fun k hk => full k hk), ⟨r1, rfl, ?_, hM, fun x hx => ?_, fun i h j h1 h2 => ?_⟩, rfl, rfl, rfl⟩
  · show ((liveOf M owner).map (·.1)).length = (((liveOf M owner).map (·.2)).map fun i => hs.getD i 0).length
    simp only [List.length_map]
  · have := List.mem_range.mp (r2 x hx)
    show x ≤ M
    omega
  · have h1 : (((liveOf M owner).map (·.2)).map fun i => hs.getD i 0)[i]? = some h := h1
    have h2 : ((liveOf M owner).map (·.1))[i]? = some j := h2
    rw [List.getElem?_map, List.getElem?_map] at h1
    rw [List.getElem?_map] at h2
    obtain ⟨⟨y, k⟩, hq, rfl⟩ := Option.map_eq_some_iff.mp h2
    rw [hq] at h1
    have h1 : hs.getD k 0 = h := Option.some.inj h1
    obtain ⟨b1, b2⟩ := (mem_live W.sz).mp (List.mem_of_getElem? hq)
    obtain ⟨h0, K, a1, a2, a3⟩ := W.at_ y k b1 b2
    have e0 : hs.getD k 0 = h0 := by rw [Array.getD_eq_getD_getElem?, ← Array.getElem?_toList, a1]; rfl
    rw [← h1, e0]
    refine ⟨K, a2, fun c hc => ?_⟩
    show way M h0 c ∈ (liveOf M owner).map (·.1)
    obtain ⟨k2, z⟩ := Option.ne_none_iff_exists'.mp (a3 c hc)
    exact List.mem_map.mpr ⟨(way M h0 c, k2), (mem_live W.sz).mpr ⟨way_bd h0 c, z⟩, rfl⟩
end DL

/-! sets of tuples with up to 1200 elements: search, add -/
namespace DL
open PySem PySem.Spec PyProof.Rows L2
structure TS5 (P : Program) (w : World) (h : Heap) (a : Addr) (L : List (Addr × List Int)) (es : Array (Int × Value)) (ep : Nat) (t : SetTable) : Prop where
  ob : ∃ o, h.get? a = some o ∧ o.ExactSet ∧ o.data = .set es ep t
  rows : es.toList = rowsOf P w L
  tab : Tbl t (L.map fun p => thash P w p.2)
  nd : (L.map (·.2)).Nodup
  tup : ∀ p ∈ L, IsT P w h p.2 p.1
  plain : t.plain = true
  led : w.params.followText "set-order" = true ∨ t.led = true
  room : L.length * 5 < t.mask * 3
  few : L.length ≤ 1000
section
variable {P : Program} {w : World} {A : Around} {E : Value → Shared → Prop} {s : Shared} {a : Addr} {L : List (Addr × List Int)} {es : Array (Int × Value)} {ep : Nat} {t : SetTable}
theorem rows_len (h : es.toList = rowsOf P w L) : es.size = L.length := by
  rw [← Array.length_toList, h]; exact List.length_map _
theorem fits_of {n : Nat} {hs : List Int} (T : Tbl t hs) (h1 : hs.length = n) (h2 : n ≤ t.mask) : t.fits n = true := by
  unfold SetTable.fits SetTable.fill
  have e := T.sz
  rw [Array.length_toList] at e
  rw [T.dm, Bool.and_eq_true, beq_iff_eq, decide_eq_true_eq]
  refine ⟨by omega, ?_⟩
  show t.place.size + 0 ≤ t.mask
  omega
theorem TS5.fits (R : TS5 P w s.heap a L es ep t) : t.fits es.size = true :=
  fits_of R.tab (by rw [List.length_map, rows_len R.rows]) (by rw [rows_len R.rows]; have := R.room; omega)
theorem rows_get (hr : es.toList = rowsOf P w L) {i : Nat} {p : Addr × List Int} (h : L[i]? = some p) : es[i]? = some (thash P w p.2, Value.ref p.1) := by
  rw [← Array.getElem?_toList, hr]
  unfold rowsOf
  rw [List.getElem?_map, h]; rfl
theorem mk_odd (T : t.mask % 2 = 1) : ¬ t.gaveWay = true := by
  unfold SetTable.gaveWay
  rw [T]; decide
theorem Mk5.odd {m : Nat} (h : Mk5 m) : m % 2 = 1 := by
  have := List.all_eq_true.mp (show [7, 31, 127, 511, 2047].all (fun m => m % 2 == 1) = true by decide) m h
  exact beq_iff_eq.mp this
theorem Mk5.le {m : Nat} (h : Mk5 m) : m ≤ 2047 := by
  have := List.all_eq_true.mp (show [7, 31, 127, 511, 2047].all (fun m => decide (m ≤ 2047)) = true by decide) m h
  exact of_decide_eq_true this
abbrev prb (m : Nat) (h : Int) : SetTable.Probe := runAt m (SetTable.bits h % (m + 1)) (SetTable.bits h)
theorem prb_dm (m : Nat) (h : Int) : ∀ c, (nth m (prb m h) c).dummy = none
  | 0 => rfl
  | c + 1 => by
    rw [nth_succ]
    have := prb_dm m h c
    unfold adv
    split <;> exact this
/-- the model's look at a candidate's entry, asked with the entry known -/
theorem cand_rest (R : TS5 P w s.heap a L es ep t) {x : Addr} {k : List Int} (hx : IsT P w s.heap k x) (hu : A.units < cLine) {i j f : Nat} {next : SetTable.Probe} {p : Addr × List Int} (hp : L[i]? = some p) (hj : t.place.toList[i]? = some j) {Q : SetFound → Shared → Prop}
    (heq : p.2 = k → Q (.there none) s) (hne : p.2 ≠ k → wpAny (model P w) A (setSearchFrom a (.ref x) (thash P w k) true f (some next)) Q E s) :
    wpAny (model P w) A (searchRest a (.ref x) (thash P w k) true f es t j i next) Q E s := by
  obtain ⟨o, ho, hex, hd⟩ := R.ob
  have e1 := rows_get R.rows hp
  unfold searchRest
  rw [e1]
  dsimp only
  refine wpAny_bind (wpAny_holding (wpAny_eqBool_tuple hu (R.tup p (List.mem_of_getElem? hp)) hx ?_))
  refine wpAny_bind (wpAny_setState_of ho hd R.fits ?_)
  dsimp only
  by_cases c : p.2 = k
  · exact wp_if_pos (by simp [c]) (wpAny_pure (heq c))
  · refine wp_if_neg (by simp [c]) ?_
    rw [sameMem]
    dsimp only
    have hsl := slot_live R.tab.ris hj
    simp only [if_true, hsl, e1]
    refine wpAny_bind (wpAny_isSame_ref_self (wpAny_bind (wpAny_pure ?_)))
    simp only [if_true]
    exact wp_if_neg (by simp [c]) (hne c)
theorem seek (R : TS5 P w s.heap a L es ep t) {x : Addr} {k : List Int} (hx : IsT P w s.heap k x) (hu : A.units < cLine) {K : Nat} (Z : Emp t (thash P w k) K) {Q : SetFound → Shared → Prop}
    (hin : k ∈ L.map (·.2) → Q (.there none) s) (hout : k ∉ L.map (·.2) → Q (.free (way t.mask (thash P w k) K) false) s) :
    ∀ (f c : Nat) (stand : Option SetTable.Probe), stand.getD (t.probeStart (thash P w k)) = nth t.mask (prb t.mask (thash P w k)) c → c ≤ K → K < f + c →
      (∀ (i : Nat) p, L[i]? = some p → p.2 = k → ∃ d, c ≤ d ∧ d < K ∧ t.place.toList[i]? = some (way t.mask (thash P w k) d)) →
      wpAny (model P w) A (setSearchFrom a (.ref x) (thash P w k) true f stand) Q E s
  | 0, c, stand, _, hc, hf, _ => absurd hf (by omega)
  | f + 1, c, stand, hst, hc, hf, hre => by
    obtain ⟨o, ho, hex, hd⟩ := R.ob
    rw [setSearchFrom_succ]
    refine wpAny_bind (wpAny_setState_of ho hd R.fits ?_)
    dsimp only
    refine wp_if_neg (mk_odd R.tab.mok.odd) ?_
    have step : ∀ q, nth t.mask (nth t.mask (prb t.mask (thash P w k)) c) q = nth t.mask (prb t.mask (thash P w k)) (c + q) := fun q => (nth_add t.mask c _ q).symm
    have spec := go_spec t R.tab.ris R.tab.dm (fun i => (es[i]?.map (·.1)).getD 0) (thash P w k) (10 * SetTable.turns t.mask) (K - c) (nth t.mask (prb t.mask (thash P w k)) c) (prb_dm _ _ c) (by have := Z.lt; omega)
      (fun q hq => by rw [step]; exact Z.inn (c + q) (by omega)) (by rw [step, show c + (K - c) = K by omega]; exact Z.out)
    simp only [step] at spec
    rw [show c + (K - c) = K by omega] at spec
    have hash : ∀ (i : Nat) p, L[i]? = some p → (es[i]?.map (·.1)).getD 0 = thash P w p.2 := fun i p hp => by rw [rows_get R.rows hp]; rfl
    have eprobe : t.probe (fun i => (es[i]?.map (·.1)).getD 0) (thash P w k) (stand.getD (t.probeStart (thash P w k))) = SetTable.probe.go t (fun i => (es[i]?.map (·.1)).getD 0) (thash P w k) (10 * SetTable.turns t.mask) (nth t.mask (prb t.mask (thash P w k)) c) := by rw [hst]; rfl
    rw [eprobe]
    rcases spec with ⟨q, i, hq, hi, hh, hno, hpr⟩ | ⟨hno, hpr⟩
    · rw [hpr]
      dsimp only
      have hi : t.place.toList[i]? = some (way t.mask (thash P w k) (c + q)) := hi
      have hil : i < L.length := by
        have h1 := (List.getElem?_eq_some_iff.mp hi).1
        rw [R.tab.sz, List.length_map] at h1
        exact h1
      obtain ⟨p, hp⟩ : ∃ p, L[i]? = some p := ⟨_, List.getElem?_eq_getElem hil⟩
      have rest := cand_rest (A := A) (E := E) (f := f) (next := nth t.mask (prb t.mask (thash P w k)) (c + (q + 1))) R hx hu hp hi (Q := Q) (fun e => hin (List.mem_map.mpr ⟨p, List.mem_of_getElem? hp, e⟩)) fun e => by
        refine seek R hx hu Z hin hout f (c + (q + 1)) _ rfl (by omega) (by omega) fun i0 p0 h0 k0 => ?_
        obtain ⟨d, d1, d2, d3⟩ := hre i0 p0 h0 k0
        refine ⟨d, ?_, d2, d3⟩
        refine Classical.byContradiction fun z => ?_
        by_cases y : d = c + q
        · rw [y] at d3
          have e1 := slot_live R.tab.ris d3
          rw [slot_live R.tab.ris hi] at e1
          cases e1
          rw [hp] at h0
          cases h0
          exact e k0
        · refine hno (d - c) i0 (by omega) (by rw [show c + (d - c) = d by omega]; exact d3) ?_
          show (es[i0]?.map (·.1)).getD 0 = _
          rw [hash i0 p0 h0, k0]
      by_cases hl : t.led = true
      · exact wp_if_neg (by simp [hl]) rest
      · refine wp_if_pos (by simp [hl]) (wpAny_bind (seen_tup hx (fun y hy => ?_) (wp_if_neg (by decide) rest)))
        obtain ⟨e, he, rfl⟩ := List.mem_map.mp hy
        have he2 : e ∈ es.toList := by
          have : e ∈ es ∧ e.1 = thash P w k := by simpa using he
          simpa using this.1
        rw [R.rows] at he2
        obtain ⟨p2, hp2, rfl⟩ := List.mem_map.mp he2
        exact ⟨p2.2, p2.1, rfl, R.tup p2 hp2⟩
    · rw [hpr]
      dsimp only
      refine wpAny_pure (hout fun hm => ?_)
      obtain ⟨p0, h0, k0⟩ := List.mem_map.mp hm
      obtain ⟨i0, h00⟩ := List.mem_iff_getElem?.mp h0
      obtain ⟨d, d1, d2, d3⟩ := hre i0 p0 h00 k0
      refine hno (d - c) i0 (by omega) (by rw [show c + (d - c) = d by omega]; exact d3) ?_
      show (es[i0]?.map (·.1)).getD 0 = _
      rw [hash i0 p0 h00, k0]
theorem find_at (R : TS5 P w s.heap a L es ep t) {x : Addr} {k : List Int} (hx : IsT P w s.heap k x) (hu : A.units < cLine) {Q : SetFound → Shared → Prop}
    (hin : k ∈ L.map (·.2) → Q (.there none) s) (hout : ∀ K, k ∉ L.map (·.2) → Emp t (thash P w k) K → Q (.free (way t.mask (thash P w k) K) false) s) :
    wpAny (model P w) A (setSearch a (.ref x) (thash P w k) true) Q E s := by
  obtain ⟨K, Z⟩ := R.tab.emp (by rw [List.length_map]; have := R.room; omega) (thash P w k)
  have hb : K < 100000 := by
    have h1 := Z.lt
    have h2 := R.tab.mok.le
    unfold SetTable.turns at h1
    omega
  refine seek R hx hu Z hin (fun hn => hout K hn Z) 100000 0 none rfl (Nat.zero_le _) (by omega) fun i p hp hk => ?_
  have hi : (L.map fun p => thash P w p.2)[i]? = some (thash P w k) := by rw [List.getElem?_map, hp, ← hk]; rfl
  have hil : i < t.place.toList.length := by
    rw [R.tab.sz, List.length_map]; exact (List.getElem?_eq_some_iff.mp hp).1
  have hj := List.getElem?_eq_getElem hil
  obtain ⟨d, hd, e⟩ := Z.past R.tab hi hj
  exact ⟨d, Nat.zero_le _, hd, by rw [hj, e]⟩
end
end DL

/-! sets of tuples with up to 1200 elements: relaying, adding -/
namespace DL
open PySem PySem.Spec PyProof.Rows L2
theorem grow_sizes : SetTable.sizeAbove (SetTable.grown 5) = 32 ∧ SetTable.sizeAbove (SetTable.grown 19) = 128 ∧ SetTable.sizeAbove (SetTable.grown 77) = 512 ∧ SetTable.sizeAbove (SetTable.grown 307) = 2048 := by decide +kernel
/-- a full table grows to one with room -/
theorem grow_to {m n : Nat} (hm : Mk5 m) (h1 : n * 5 < m * 3) (h2 : m * 3 ≤ (n + 1) * 5) (hn : n ≤ 1000) : ∃ M, SetTable.sizeAbove (SetTable.grown (n + 1)) - 1 = M ∧ Mk5 M ∧ SetTable.sizeAbove (SetTable.grown (n + 1)) ≤ 2048 ∧ (n + 1) * 5 < M * 3 := by
  obtain ⟨g1, g2, g3, g4⟩ := grow_sizes
  have hm' : m = 7 ∨ m = 31 ∨ m = 127 ∨ m = 511 ∨ m = 2047 := by
    unfold Mk5 at hm
    simpa using hm
  rcases hm' with e | e | e | e | e <;> subst e
  · have : n = 4 := by omega
    subst this
    exact ⟨31, by rw [g1], by unfold Mk5; decide, by rw [g1]; decide, by decide⟩
  · have : n = 18 := by omega
    subst this
    exact ⟨127, by rw [g2], by unfold Mk5; decide, by rw [g2]; decide, by decide⟩
  · have : n = 76 := by omega
    subst this
    exact ⟨511, by rw [g3], by unfold Mk5; decide, by rw [g3]; decide, by decide⟩
  · have : n = 306 := by omega
    subst this
    exact ⟨2047, by rw [g4], by unfold Mk5; decide, by rw [g4]; decide, by decide⟩
  · omega
section
variable {P : Program} {w : World} {A : Around} {E : Value → Shared → Prop} {s : Shared} {a : Addr} {L : List (Addr × List Int)} {es : Array (Int × Value)} {ep : Nat} {t : SetTable}
theorem relay5 {o : Obj} (ho : s.heap.get? a = some o) (hex : o.ExactSet) (hd : o.data = .set es ep t) (hr : es.toList = rowsOf P w L) (T : Tbl t (L.map fun p => thash P w p.2)) (hfl : L.length ≤ t.mask)
    (nd : (L.map (·.2)).Nodup) (tup : ∀ p ∈ L, IsT P w s.heap p.2 p.1) (pl : t.plain = true) (ld : w.params.followText "set-order" = true ∨ t.led = true) (few : L.length ≤ 1000) {wanted M : Nat}
    (hw : SetTable.sizeAbove wanted - 1 = M) (hM : Mk5 M) (hw2 : SetTable.sizeAbove wanted ≤ 2048) (hn : L.length * 5 < M * 3) {Q : Unit → Shared → Prop}
    (q : ∀ h' L' es' ep' t', Heap.SameBut a s.heap h' → TS5 P w h' a L' es' ep' t' → L'.Perm L → Q () { s with heap := h' }) : wpAny (model P w) A (setRelay a wanted) Q E s := by
  have hsl := rows_len hr
  have hf : t.fits es.size = true := fits_of T (by rw [List.length_map, hsl]) (by omega)
  obtain ⟨t', order, e, hp, T', em, el, epl⟩ := relay_tbl t (es.map (·.1)) hw hM (by rw [Array.size_map, hsl]; omega)
  rw [Array.size_map, hsl] at hp
  obtain ⟨L2, r1, r2, r3⟩ := order_rows L es order hr hp
  rw [← r3] at T'
  have hs2 : (order.filterMap (es[·]?)).size = es.size := by rw [rows_len r1, r2.length_eq, hsl]
  have big : 1000 ≤ sizeLine ∧ 2048 ≤ sizeLine := by decide
  rw [setRelay_eq]
  refine wpAny_bind (wpAny_setState_of ho hd hf ?_)
  dsimp only
  refine wp_if_neg (by omega) ?_
  rw [e]
  dsimp only
  refine wpAny_bind (wp_if_neg (by rw [hs2]; simp) (wpAny_pure ?_))
  dsimp only
  refine wpAny_storeSet_of ho hd ?_ (by omega)
  have sb : Heap.SameBut a s.heap (s.heap.update a (Obj.putSet (order.filterMap (es[·]?)) t')) := Heap.SameBut.update ..
  refine q _ L2 _ (ep + 1) t' sb ⟨⟨_, store_at ho hd, ⟨hex.1, hex.2.1, hex.2.2⟩, rfl⟩, r1, T', (r2.map (·.2)).nodup_iff.mpr nd, fun p hpm => isT_same (tup p (r2.mem_iff.mp hpm)) ho hd sb, by rw [epl]; exact pl, by rw [el]; exact ld, ?_, by rw [r2.length_eq]; exact few⟩ r2
  rw [r2.length_eq, em]; exact hn
theorem add5 (R : TS5 P w s.heap a L es ep t) {x : Addr} {k : List Int} (hx : IsT P w s.heap k x) (hu : A.units < cLine) (few : L.length + 1 ≤ 1000) {Q : Bool → Shared → Prop}
    (q : ∀ b h' L' es' ep' t', Heap.SameBut a s.heap h' → TS5 P w h' a L' es' ep' t' → (k ∈ L.map (·.2) → L' = L) → (k ∉ L.map (·.2) → L'.Perm ((x, k) :: L)) → Q b { s with heap := h' }) :
    wpAny (model P w) A (setAddHashed a (.ref x) (thash P w k)) Q E s := by
  obtain ⟨o, ho, hex, hd⟩ := R.ob
  have hsl := rows_len R.rows
  have hroom := R.room
  have big : 1001 ≤ sizeLine := by decide
  unfold setAddHashed
  refine wpAny_holding ?_
  rw [show (100000 : Nat) = 99999 + 1 from rfl, setAddHashedIn_succ]
  refine wpAny_bind (wpAny_setState_of ho hd R.fits ?_)
  dsimp only
  refine wp_if_neg (by simp [byScan, Value.scannable]) ?_
  refine wpAny_bind (find_at R hx hu (fun hm => ?_) fun K hm Z => ?_)
  · exact wpAny_pure (q false s.heap L es ep t (Heap.SameBut.refl a s.heap) R (fun _ => rfl) fun z => absurd hm z)
  dsimp only
  refine wpAny_bind (wpAny_setState_of ho hd R.fits ?_)
  dsimp only
  obtain ⟨b1, T1, f1⟩ := R.tab.put Z
  rw [List.length_map] at f1
  have hp1 : (t.put (way t.mask (thash P w k) K)).1.plain = true := R.plain
  have ld1 : w.params.followText "set-order" = true ∨ (t.put (way t.mask (thash P w k) K)).1.led = true := R.led
  have em : (t.put (way t.mask (thash P w k) K)).1.mask = t.mask := rfl
  have e2 : (t.put (way t.mask (thash P w k) K)).2 = SetTable.below t.place (way t.mask (thash P w k) K) := rfl
  generalize SetTable.below t.place (way t.mask (thash P w k) K) = p at b1 T1 e2
  generalize t.put (way t.mask (thash P w k) K) = pt at T1 f1 hp1 ld1 em e2 ⊢
  obtain ⟨t1, p'⟩ := pt
  dsimp only at T1 f1 hp1 ld1 em e2 ⊢
  subst e2
  refine wp_if_pos hp1 (wpAny_bind (hashBy_tup hx ?_))
  simp only [if_true]
  have hin : (SetTable.insertAt es p' (thash P w k, Value.ref x)).toList = rowsOf P w (L.take p' ++ (x, k) :: L.drop p') := by rw [SetTable.toList_insertAt, rows_put, R.rows]
  have pm := put_perm L p' (x, k)
  have hhs : (L.map fun p => thash P w p.2).take p' ++ thash P w k :: (L.map fun p => thash P w p.2).drop p' = (L.take p' ++ (x, k) :: L.drop p').map (fun p => thash P w p.2) := by rw [List.map_append, List.map_cons, List.map_take, List.map_drop]
  rw [hhs] at T1
  generalize SetTable.insertAt es p' (thash P w k, Value.ref x) = es1 at hin ⊢
  generalize L.take p' ++ (x, k) :: L.drop p' = L1 at pm T1 hin
  have hlen : L1.length = L.length + 1 := pm.length_eq
  have hes := rows_len hin
  have nd1 : (L1.map (·.2)).Nodup := (pm.map (·.2)).nodup_iff.mpr (List.nodup_cons.mpr ⟨hm, R.nd⟩)
  refine wpAny_bind (wpAny_storeSet_of ho hd ?_ (by omega))
  have sb : Heap.SameBut a s.heap (s.heap.update a (Obj.putSet es1 t1)) := Heap.SameBut.update ..
  have ho1 := store_at (es' := es1) (t' := t1) ho hd
  generalize s.heap.update a (Obj.putSet es1 t1) = h1 at sb ho1 ⊢
  have tup1 : ∀ p ∈ L1, IsT P w h1 p.2 p.1 := fun p hp => by
    rcases List.mem_cons.mp (pm.mem_iff.mp hp) with e | hp
    · rw [e]; exact isT_same hx ho hd sb
    · exact isT_same (R.tup p hp) ho hd sb
  have h7 : 7 ≤ t.mask := by
    have := List.all_eq_true.mp (show [7, 31, 127, 511, 2047].all (fun m => decide (7 ≤ m)) = true by decide) _ R.tab.mok
    exact of_decide_eq_true this
  by_cases hf : t1.tooFull = true
  · refine wp_if_pos (by simp [hf]) (wpAny_bind ?_)
    have hfull : t.mask * 3 ≤ (L.length + 1) * 5 := by
      unfold SetTable.tooFull at hf
      rw [decide_eq_true_eq, f1, em] at hf
      exact hf
    obtain ⟨M, g1, g2, g3, g4⟩ := grow_to R.tab.mok hroom hfull R.few
    rw [hsl]
    exact relay5 (s := { s with heap := h1 }) ho1 ⟨hex.1, hex.2.1, hex.2.2⟩ rfl hin T1 (by omega) nd1 tup1 hp1 ld1 (by omega) g1 g2 g3 (by omega) fun h2 L2 es2 ep2 t2 sb2 R2 pm2 =>
      wpAny_pure (q true h2 L2 es2 ep2 t2 (sb.trans sb2) R2 (fun z => absurd z hm) fun _ => pm2.trans pm)
  · refine wp_if_neg (by simp [hf]) (wpAny_pure ?_)
    refine q true h1 L1 es1 (ep + 1) t1 sb ⟨⟨_, ho1, ⟨hex.1, hex.2.1, hex.2.2⟩, rfl⟩, hin, T1, nd1, tup1, hp1, ld1, ?_, by omega⟩ (fun z => absurd z hm) fun _ => pm
    unfold SetTable.tooFull at hf
    rw [decide_eq_true_eq, f1] at hf
    omega
end
end DL

set_option maxHeartbeats 3200000
/-! sets of tuples with up to 1000 elements: set(list) -/
namespace DL
open PySem PySem.Spec PyProof.Rows L2
section
variable {P : Program} {w : World} {A : Around} {E : Value → Shared → Prop} {s : Shared}
theorem TS5.keep {h h' : Heap} {a : Addr} {L : List (Addr × List Int)} {es : Array (Int × Value)} {ep : Nat} {t : SetTable} (R : TS5 P w h a L es ep t) (ha : ∀ o, h.get? a = some o → h'.get? a = some o) (ht : ∀ p ∈ L, IsT P w h' p.2 p.1) : TS5 P w h' a L es ep t :=
  { R with ob := let ⟨o, ho, r⟩ := R.ob; ⟨o, ha o ho, r⟩, tup := ht }
abbrev newSet (w : World) : Obj := { cls := .type "set", dict := none, data := .set #[] 0 (.fresh 0 0 (!w.params.followText "set-order")) }
theorem ts5_new {h : Heap} {a : Addr} (ho : h.get? a = some (newSet w)) : TS5 P w h a [] #[] 0 (.fresh 0 0 (!w.params.followText "set-order")) := by
  refine ⟨⟨_, ho, ⟨rfl, rfl, rfl⟩, rfl⟩, rfl, ⟨List.Pairwise.nil, rfl, rfl, ?_, fun j hj => (by cases hj), fun i h j hi _ => (by simp at hi)⟩, List.nodup_nil, fun p hp => (by cases hp), rfl, ?_, show 0 * 5 < 7 * 3 by decide, Nat.zero_le _⟩
  · show Mk5 7
    unfold Mk5; decide
  · cases e : w.params.followText "set-order"
    · exact .inr rfl
    · exact .inl rfl
/-- the turns of the update -/
theorem turns5 {I : Addr} {fp wr : List Addr} {G : Array GenState → Array GenState → Prop} {n : Nat} {Pv : Nat → Value → Prop} {St : Nat → Shared → Prop} {R : Result → Shared → Prop}
    (W : WalksS P w A.in1 I fp wr G n Pv St) (S : Addr) (hSf : S ∉ fp) (ks : List (Addr × List Int)) (hn : n = ks.length) (hfew : ks.length ≤ 1000) (hval : ∀ i v, Pv i v → ∃ p, ks[i]? = some p ∧ v = .ref p.1)
    (h0 : Heap) (hk : ∀ p ∈ ks, IsT P w h0 p.2 p.1) (hS0 : h0.get? S = none) (hw0 : ∀ b ∈ wr, h0.get? b = none) (hu : A.in1.units < cLine) :
    ∀ (k i : Nat) (s1 : Shared), i + k = n → St i s1 → (∀ b o, h0.get? b = some o → s1.heap.get? b = some o) → (∃ L es ep t, TS5 P w s1.heap S L es ep t ∧ Got ks i L) →
      (∀ s' L es ep t, Moved (S :: wr) G s1 s' → TS5 P w s'.heap S L es ep t → Got ks n L → (∀ b o, h0.get? b = some o → s'.heap.get? b = some o) → R (.ok (.ret .none)) s') →
      codeAny (model P w) A (.builtin "set.update.loop" ⟨[.ref S, .ref I], []⟩) R s1 := by
  have hSw : S ∉ wr := fun h => hSf (W.sub _ h)
  have hsub : ∀ b ∈ wr, b ∈ S :: wr := fun b hb => List.mem_cons_of_mem _ hb
  have keep0 : ∀ {s1 s2 : Shared}, Moved wr G s1 s2 → (∀ b o, h0.get? b = some o → s1.heap.get? b = some o) → ∀ b o, h0.get? b = some o → s2.heap.get? b = some o := fun hm hkp b o e =>
    hm.heap b o (fun hb => by rw [hw0 b hb] at e; cases e) (hkp b o e)
  have isT : ∀ {h' : Heap} {p : Addr × List Int}, p ∈ ks → (∀ b o, h0.get? b = some o → h'.get? b = some o) → IsT P w h' p.2 p.1 := fun hp hkp => isT_keep (hk _ hp) hkp
  intro k
  induction k with
  | zero =>
    intro i s1 hi hst hkp ⟨L, es, ep, t, hS, g⟩ hR
    have hin : i = n := hi
    subst hin
    refine codeAny_builtin F.entry_set_update_loop ?_
    rw [Around.under_plainId F.plain_set_update_loop _]
    show wpAny _ A.in1 (pyNext (.ref I) >>= _) _ _ s1
    refine wpAny_bind (W.done s1 _ _ hst fun s2 hm => ?_)
    show wpAny _ A.in1 (ret Value.none) _ _ s2
    have hkp2 := keep0 hm hkp
    exact wpAny_pure (hR s2 L es ep t (hm.mono hsub) (hS.keep (fun o e => hm.heap S o hSw e) fun p hp => isT (List.mem_of_mem_take (g.sub p hp)) hkp2) g hkp2)
  | succ k ih =>
    intro i s1 hi hst hkp ⟨L, es, ep, t, hS, g⟩ hR
    refine codeAny_builtin F.entry_set_update_loop ?_
    rw [Around.under_plainId F.plain_set_update_loop _]
    show wpAny _ A.in1 (pyNext (.ref I) >>= _) _ _ s1
    refine wpAny_bind (W.item i s1 _ _ (by omega) hst fun v s2 hP hst2 hm => ?_)
    obtain ⟨p, hp, rfl⟩ := hval i v hP
    have hkp2 := keep0 hm hkp
    have hx := isT (h' := s2.heap) (List.mem_of_getElem? hp) hkp2
    have hS2 := hS.keep (h' := s2.heap) (fun o e => hm.heap S o hSw e) fun q hq => isT (List.mem_of_mem_take (g.sub q hq)) hkp2
    show wpAny _ A.in1 (holding [Value.ref p.1] (setAdd S (.ref p.1)) >>= _) _ _ s2
    refine wpAny_bind (wpAny_holding ?_)
    unfold setAdd
    refine wpAny_holding (wpAny_bind (wpAny_pyHash_tuple hu hx ?_))
    refine add5 (s := { s2 with toks := s2.toks + (p.2.length + 1) }) hS2 hx hu (by have := g.len; omega) fun b h' L' es' ep' t' hsb hS3 c1 c2 => ?_
    have other : ∀ b o, b ≠ S → s2.heap.get? b = some o → h'.get? b = some o := fun b o hb e => (hsb.2 b hb).trans e
    have g' : Got ks (i + 1) L' := by
      by_cases c : p.2 ∈ L.map (·.2)
      · rw [c1 c]; exact g.same hp c
      · exact g.more hp (c2 c)
    refine wpAny_pure ⟨plainId_quiet F.plain_set_update_loop _, ih (i + 1) _ (by omega) (W.frame _ s2 _ _ hst2 (Nat.le_add_right _ _) fun b hb o e => other b o (fun z => hSf (z ▸ hb)) e) (fun b o e => other b o (fun z => by rw [z, hS0] at e; cases e) (hkp2 b o e)) ⟨L', es', ep', t', hS3, g'⟩ fun s3 L2 es2 ep2 t2 hm3 hS4 g2 hkp3 => hR s3 L2 es2 ep2 t2 ?_ hS4 g2 hkp3⟩
    exact Moved.trans W.gtrans ((hm.mono hsub).then_heap (Nat.le_add_right _ _) fun b o hb e => other b o (fun z => hb (z ▸ List.mem_cons_self)) e) hm3
/-- the call of set with one argument, by what its two parts do -/
theorem set_call {a : Value} {Q Q₁ : Value → Shared → Prop} (hnew : codeAny (model P w) A.in1 (.call (.builtin "set.__new__") ⟨[.type "set", a], []⟩) (wants Q₁ E) s)
    (hnext : ∀ obj s₁, Q₁ obj s₁ → s₁.TypeIs obj "set" ∧ wpAny (model P w) A.in1.in1 (Builtin.«set.__init__» ⟨[obj, a], []⟩)
      (fun fin s' => match fin with | .done f => wants (fun r s₂ => r = .none ∧ Q obj s₂) E (.ok f) s' | .again c' => c'.quiet = true ∧ codeAny (model P w) A.in1 c' (wants (fun r s₂ => r = .none ∧ Q obj s₂) E) s')
      (fun e s' => wants (fun r s₂ => r = .none ∧ Q obj s₂) E (.error e) s') s₁) : wpAny (model P w) A (call (.type "set") [a]) Q E s := by
  have ft := F.called_set
  obtain ⟨cls, rest, mro⟩ := ft.mro
  have made := ft.made; have sub := ft.sub; have nt := ft.notType; have cc := ft.canCreate
  have tcall := F.typeCall_set_1 a
  refine wpAny_call (codeAny_of_tree (show wpAny _ _ (callAny (.type "set") _) _ _ _ from wpAny_pure ⟨Code.quiet_builtin _ (by decide +kernel), codeAny_builtin F.entry_type_call ?_⟩))
  rw [Around.under_plain (weight_type_call_type "set" [a] []) rfl]
  repeat (any_goals (first | assumption | wp_step))
  refine codeAny_mono hnew fun r s₁ hr => ?_
  match r, hr with
  | .error e, hr => exact hr
  | .ok (.ret obj), hr =>
    obtain ⟨isSet, body⟩ := hnext _ _ hr
    have lk := ft.init.lookup; have bd := ft.init.bind obj
    repeat (any_goals (first | assumption | wp_step))
    refine codeAny_mono (codeAny_call_builtin ft.init.plain F.entry_set_init (check_set_init_1 isSet body)) fun r₂ s₂ hr₂ => ?_
    match r₂, hr₂ with
    | .error e, hr₂ => exact hr₂
    | .ok (.ret v), hr₂ =>
      obtain ⟨rfl, fin⟩ := hr₂
      repeat (any_goals (first | assumption | wp_step))
/-- set(xs), xs a list of tuples of ints -/
theorem call_set5 {l : Addr} {items : Array Value} (ks : List (Addr × List Int)) {Q : Value → Shared → Prop} (hh : A.handled = none) (hl : s.heap.IsList l items) (hit : items.toList = ks.map fun p => Value.ref p.1)
    (hk : ∀ p ∈ ks, IsT P w s.heap p.2 p.1) (hfew : ks.length ≤ 1000) (hu : A.units + 3 < cLine)
    (q : ∀ (h' : Heap) (tk : Nat) L es ep t, TS5 P w h' s.heap.objs.size L es ep t → Got ks ks.length L → (∀ b o, s.heap.get? b = some o → h'.get? b = some o) → Q (.ref s.heap.objs.size) { s with heap := h', toks := tk }) :
    wpAny (model P w) A (call (.type "set") [.ref l]) Q E s := by
  have hisz : items.size = ks.length := by rw [← Array.length_toList, hit]; exact List.length_map _
  refine set_call (Q₁ := fun obj s₁ => obj = .ref s.heap.objs.size ∧ s₁ = { s with heap := s.heap.push (newSet w) }) (code_set_led1 _ ⟨rfl, rfl⟩) fun obj s₁ h₁ => ?_
  obtain ⟨rfl, rfl⟩ := h₁
  have hS : (s.heap.push (newSet w)).get? s.heap.objs.size = some (newSet w) := Heap.get?_push_size _ rfl
  refine ⟨⟨_, hS, rfl⟩, ?_⟩
  have none_of : ∀ b, s.heap.objs.size ≤ b → s.heap.get? b = none := fun b hb => Classical.byContradiction fun z => by
    obtain ⟨o, e⟩ := Option.ne_none_iff_exists'.mp z
    exact absurd (Heap.lt_size e) (Nat.not_lt.mpr hb)
  obtain ⟨⟨ocls, odict, odata, oslots⟩, hol, hcl, nl, hdl⟩ := hl
  obtain rfl : ocls = .type "list" := hcl
  obtain rfl : odata = .seq items nl := hdl
  have hlS : l < s.heap.objs.size := Heap.lt_size hol
  have onL := Heap.get?_push_of_some (newSet w) hol
  have isL : (s.heap.push (newSet w)).IsList l items := ⟨_, onL, rfl, nl, rfl⟩
  have hsz1 : (s.heap.push (newSet w)).objs.size = s.heap.objs.size + 1 := Heap.size_push ..
  have q1 := F.sub_list_set; have q2 := F.sub_list_frozenset
  have q3 : (Value.type "list" == Value.type "dict") = false := by decide
  unfold Builtin.«set.__init__» noKeywords Builtin.Frozenset.updateFrom
  generalize hPI : pyIter = PI
  wp_walk
  subst hPI
  refine wpAny_pyIter_list isL (wpAny_bind (wpAny_runValue ?_))
  have hnI : l ≠ (s.heap.push (newSet w)).objs.size := by rw [hsz1]; exact Nat.ne_of_lt (Nat.lt_succ_of_lt hlS)
  have hval : ∀ (i : Nat) (v : Value), items[i]? = some v → ∃ p, ks[i]? = some p ∧ v = .ref p.1 := fun i v hv => by
    rw [← Array.getElem?_toList, hit, List.getElem?_map] at hv
    obtain ⟨p, e1, e2⟩ := Option.map_eq_some_iff.mp hv
    exact ⟨p, e1, e2.symm⟩
  refine turns5 ((Walks.list (show A.in1.in1.in1.handled = none by simp [hh]) _ l hnI items).toS) s.heap.objs.size (by
      rw [hsz1]; simp only [List.mem_cons, List.not_mem_nil, or_false, not_or]; exact ⟨Nat.ne_of_lt (Nat.lt_succ_self _), Nat.ne_of_gt hlS⟩) ks hisz hfew hval s.heap hk (none_of _ (Nat.le_refl _)) (fun b hb => none_of b (by
      rw [List.mem_singleton.mp hb, hsz1]; exact Nat.le_succ _)) hu items.size 0 _ (by omega) ⟨⟨_, Heap.get?_push_size _ rfl, rfl, rfl⟩, isL.push _⟩ (fun b o e => Heap.get?_push_of_some _ (Heap.get?_push_of_some _ e))
      ⟨[], #[], 0, _, ts5_new (Heap.get?_push_of_some _ hS), Got.zero ks⟩ ?_
  intro s' L es ep t hm hS' g' hkp
  obtain ⟨h', gg, dd, tk', os'⟩ := s'
  obtain rfl : gg = s.gens := hm.gens
  obtain rfl : dd = s.drawn := hm.drawn
  obtain rfl : os' = s.os := hm.os
  rw [hisz] at g'
  exact wpAny_pure (wpAny_pure ⟨rfl, q h' tk' L es ep t hS' g' hkp⟩)
end
end DL

set_option maxHeartbeats 1000000
/-! sorted: of what is collected, by any order -/
namespace DL
open PySem PySem.Spec PyProof.Rows L2
section
variable {P : Program} {w : World} {A : Around} {E : Value → Shared → Prop} {s : Shared}
theorem sorted_by {v : Value} {ltv : Value → Value → Bool} {Q : Value → Shared → Prop} (O : SrtO.Swo ltv) (Col : List Value → Shared → Prop) (hcol : ∀ E' : Value → Shared → Prop, wpAny (model P w) A.in1 (collect v) Col E' s) (hz : ∀ vs s1, Col vs s1 → vs.length ≤ sizeLine)
    (hS : ∀ vs s1, Col vs s1 → 2 ≤ vs.length → ∀ (h₁ : Heap) (b : Addr), h₁.get? b = some (seqObj "list" vs.toArray 0) → (∀ c o, s1.heap.get? c = some o → c ≠ b ∧ h₁.get? c = some o) → SrtO.SortableO P w A.in1.in1 { s1 with heap := h₁ } b vs ltv)
    (q : ∀ vs s1 out, Col vs s1 → SrtO.Srtd ltv out → SrtO.Stb ltv out vs → ∀ (h2 : Heap) (p : Addr) (n : Nat), (∀ c o, s1.heap.get? c = some o → h2.get? c = some o) → s1.heap.objs.size ≤ p → h2.get? p = some (seqObj "list" out.toArray n) → Q (.ref p) { s1 with heap := h2 }) :
    wpAny (model P w) A (call (.builtin "sorted") [v]) Q E s := by
  refine Calls.call_function_entry kind_sorted plain_sorted entry_sorted (args_sorted1 _) ?_
  unfold Builtin.«sorted»
  refine wpAny_bind (m := checkCount "sorted" 1 1 _) (wpAny_pure ?_)
  refine wpAny_bind (wpAny_mono (hcol _) (fun vs s1 hc => ?_) fun _ _ e => e)
  refine wpAny_bind (wpAny_newList ?_ (hz vs s1 hc))
  have hoL : (s1.heap.push (seqObj "list" vs.toArray 0)).get? s1.heap.objs.size = some (seqObj "list" vs.toArray 0) := Heap.get?_push_size _ rfl
  have keep : ∀ c o, s1.heap.get? c = some o → c ≠ s1.heap.objs.size ∧ (s1.heap.push (seqObj "list" vs.toArray 0)).get? c = some o := fun c o e => ⟨Nat.ne_of_lt (Heap.lt_size e), Heap.get?_push_of_some _ e⟩
  refine wpAny_bind (wpAny_holding (wpAny_call_entry slot_list_sort ⟨_, hoL, rfl⟩ entry_list_sort (SrtO.list_sort_ord (s := { s1 with heap := s1.heap.push (seqObj "list" vs.toArray 0) }) O hoL (hz vs s1 hc) (fun h2 => hS vs s1 hc h2 _ _ hoL keep) fun out hs hb => ⟨_, rfl, ?_⟩) (args_list_sort _)))
  obtain ⟨n, hn⟩ := sortedHeap_at (vs := vs) (out := out.toArray) hoL
  refine wpAny_pure ⟨_, rfl, q vs s1 out hc hs hb _ _ n (fun c o e => ?_) (Nat.le_refl _) hn⟩
  obtain ⟨e1, e2⟩ := keep c o e
  rw [sortedHeap_old e1 (Heap.lt_size e2)]; exact e2
/-- sorted of a set of pairs of ints: some order -/
theorem sorted_set5 {a : Addr} {L : List (Addr × List Int)} {es : Array (Int × Value)} {ep : Nat} {t : SetTable} {Q : Value → Shared → Prop} (R : TS5 P w s.heap a L es ep t) (hh : A.handled = none) (h2 : ∀ p ∈ L, p.2.length = 2)
    (q : ∀ (s2 : Shared) (p : Addr) (n : Nat) (L' : List (Addr × List Int)), L'.Perm L → (∀ c o, s.heap.get? c = some o → s2.heap.get? c = some o) → s2.gens = s.gens → s2.os = s.os → s.heap.objs.size ≤ p → s2.heap.get? p = some (seqObj "list" (L'.map fun x => Value.ref x.1).toArray n) → Q (.ref p) s2) :
    wpAny (model P w) A (call (.builtin "sorted") [.ref a]) Q E s := by
  obtain ⟨o, ho, hex, hd⟩ := R.ob
  have hsz := rows_len R.rows
  have few := R.few
  have big : 1000 ≤ sizeLine := by decide
  have hval : es.toList.map (·.2) = L.map fun x => Value.ref x.1 := by rw [R.rows]; unfold rowsOf; rw [List.map_map]; rfl
  -- the ints of a value
  have key : ∃ k : Value → Int × Int, ∀ p ∈ L, p.2 = [(k (.ref p.1)).1, (k (.ref p.1)).2] := by
    have one : ∀ p ∈ L, ∀ r ∈ L, p.1 = r.1 → p.2 = r.2 := fun p hp r hr e => by
      have a1 := R.tup p hp
      have a2 := R.tup r hr
      rw [e] at a1
      exact a1.inj a2
    refine ⟨fun v => match v with | .ref b => (match L.find? fun p => decide (p.1 = b) with | some p => (p.2.getD 0 0, p.2.getD 1 0) | none => (0, 0)) | _ => (0, 0), fun p hp => ?_⟩
    cases hf : L.find? fun r => decide (r.1 = p.1) with
    | none => exact absurd (List.find?_eq_none.mp hf p hp) (by simp)
    | some r =>
      have e0 := List.find?_some (p := fun r : Addr × List Int => decide (r.1 = p.1)) hf
      have e1 : r.1 = p.1 := of_decide_eq_true e0
      have e2 := one r (List.mem_of_find?_eq_some hf) p hp e1
      simp only [hf]
      have := h2 p hp
      rw [e2]
      match p.2, this with
      | [x, y], _ => rfl
  obtain ⟨k, hk⟩ := key
  refine sorted_by (SrtO.swo_lex k) (fun vs s1 => (∀ b o, s.heap.get? b = some o → s1.heap.get? b = some o) ∧ s.heap.objs.size ≤ s1.heap.objs.size ∧ s1.gens = s.gens ∧ s1.os = s.os ∧ vs.Perm (L.map fun x => Value.ref x.1))
    (fun E' => collect_set (A := A.in1) hh ⟨o, ho, hex.1, hd⟩ R.fits (by unfold scanBound; omega) R.tab.ris R.led fun s1 vs k1 hz g1 o1 pm => ⟨k1, hz, g1, o1, by rw [← hval]; exact pm⟩) (fun vs s1 ⟨_, _, _, _, pm⟩ => by rw [pm.length_eq, List.length_map]; omega) (fun vs s1 ⟨k1, hz, g1, o1, pm⟩ hl h₁ b hb keep => ?_) fun vs s1 out ⟨k1, hz, g1, o1, pm⟩ hs hb h3 p n kp hp hn => ?_
  · refine SrtO.pairs_sortableO (by omega) (fun v hv => ?_) fun o' e => ?_
    · obtain ⟨x, hx, rfl⟩ := List.mem_map.mp (pm.mem_iff.mp hv)
      obtain ⟨o', items, m, e1, e2, e3, e4⟩ := R.tup x hx
      have hkx := hk x hx
      rw [hkx] at e4
      have e5 := (keep _ _ (k1 _ _ e1)).2
      have hi := ints_of_items e4
      generalize (k (.ref x.1)).1 = i at hi ⊢
      generalize (k (.ref x.1)).2 = j at hi ⊢
      obtain ⟨il⟩ := items
      cases hi with
      | cons n1 t1 r1 => cases r1 with
        | cons n2 t2 r2 => cases r2 with
          | nil => exact ⟨_, o', t1, t2, m, rfl, e5, e2, e3⟩
    · rw [show (({ s1 with heap := h₁ } : Shared).heap.get? b) = _ from hb] at e
      cases e
      intro c
      exact absurd (Value.type.inj c) (by decide)
  · have pm2 : out.Perm (L.map fun x => Value.ref x.1) := hb.perm.trans pm
    -- a list of rows that gives out
    have back : ∀ (out : List Value) (L : List (Addr × List Int)), out.Perm (L.map fun x => Value.ref x.1) → ∃ L' : List (Addr × List Int), L'.Perm L ∧ out = L'.map fun x => Value.ref x.1 := fun out => by
      induction out with
      | nil => 
        intro L h
        have := List.map_eq_nil_iff.mp (List.Perm.eq_nil h.symm)
        subst this
        exact ⟨[], List.Perm.refl _, rfl⟩
      | cons v out ih =>
        intro L h
        obtain ⟨x, hx, rfl⟩ := List.mem_map.mp (h.mem_iff.mp (List.mem_cons_self (a := v) (l := out)))
        have h1 := List.perm_cons_erase hx
        have h2 := (h.trans (h1.map fun x => Value.ref x.1)).cons_inv
        obtain ⟨L', p1, p2⟩ := ih _ h2
        exact ⟨x :: L', (p1.cons x).trans h1.symm, by rw [p2]; rfl⟩
    obtain ⟨L', p1, p2⟩ := back out L pm2
    subst p2
    exact q _ p n L' p1 (fun c o e => kp c o (k1 c o e)) g1 o1 (Nat.le_trans hz hp) hn
end
end DL

set_option maxHeartbeats 3200000
/-! more sorts: by a first int; a set of ints; a dict -/
namespace DL
open PySem PySem.Spec PyProof.Rows L2
theorem perm_map_back {α β : Type} (f : α → β) : ∀ {out : List β} {L : List α}, out.Perm (L.map f) → ∃ L' : List α, L'.Perm L ∧ out = L'.map f
  | [], L, h => ⟨[], by rw [List.map_eq_nil_iff.mp (List.Perm.eq_nil h.symm)], rfl⟩
  | b :: out, L, h => by
    obtain ⟨x, hx, rfl⟩ := List.mem_map.mp (h.mem_iff.mp List.mem_cons_self)
    obtain ⟨L1, L2, rfl⟩ := List.append_of_mem hx
    have e : (L1 ++ x :: L2).Perm (x :: (L1 ++ L2)) := List.perm_middle
    obtain ⟨L', p1, p2⟩ := perm_map_back f (h.trans (e.map f)).cons_inv
    exact ⟨x :: L', (p1.cons x).trans e.symm, by rw [p2]; rfl⟩
/-- the first item, an int, of the tuple at v -/
def fst0 (h : Heap) (v : Value) : Int := match v with
  | .ref a => match h.get? a with
    | some o => match o.data with
      | .seq xs _ => (match xs.toList with
        | Value.int i _ :: _ => i
        | _ => 0)
      | _ => 0
    | none => 0
  | _ => 0
def IsF (h : Heap) (v : Value) (i : Int) : Prop := ∃ a o t u n, v = .ref a ∧ h.get? a = some o ∧ o.cls = .type "tuple" ∧ o.data = .seq #[.int i t, u] n
theorem IsF.fst {h : Heap} {v : Value} {i : Int} (x : IsF h v i) : fst0 h v = i := by
  obtain ⟨a, o, t, u, n, rfl, ho, hc, hd⟩ := x
  simp [fst0, ho, hd]
section
variable {P : Program} {w : World} {A : Around} {E : Value → Shared → Prop} {s : Shared}
theorem eqBool_same {v : Value} {Q : Bool → Shared → Prop} (hv : (v == v) = true) (h : Q true s) : wpAny (model P w) A (eqBool v v) Q E s := by
  unfold eqBool
  refine wpAny_holding ?_
  rw [if_pos hv]
  exact wpAny_bind (wpAny_rule (wpAny_pure h))
theorem fst_cmp {vs : List Value} {k : Value → Int} (hp : ∀ v ∈ vs, IsF s.heap v (k v)) (inj : ∀ v ∈ vs, ∀ u ∈ vs, k v = k u → v = u) : SrtO.Cmp P w A s (tuples' true) (fun p => p.1 ∈ vs) (SrtO.lt2 fun v u => decide (k v < k u)) := by
  intro p q hm hm'
  obtain ⟨a, o, t, u, n, e, ho, hc, hd⟩ := hp _ hm
  obtain ⟨a', o', t', u', n', e', ho', hc', hd'⟩ := hp _ hm'
  show wpAny (model P w) A (keyLt' (tuples' true) p.1 q.1) (fun r s' => s' = s ∧ r = decide (k p.1 < k q.1)) (fun _ _ => False) s
  have inj := inj _ hm _ hm'
  generalize k p.1 = x at *
  generalize k q.1 = y at *
  rw [e, e'] at inj ⊢
  refine PySem.W.kat_lt ho hd ho' hd' ?_
  show PySem.W.KatLex P w A true (decide (2 < 2)) _ [(.int x t, .int y t'), (u, u')] 0 s
  refine PySem.W.kat_cons (SeqAt.EqAt.int_int x t y t' P w _ _ ?_)
  refine PySem.W.kat_go (fun e1 => ?_) (fun e1 => ?_)
  · have ex : x = y := by simpa using e1
    have ea := inj ex
    cases ea
    rw [ho] at ho'; cases ho'
    rw [hd] at hd'; cases hd'
    refine PySem.W.kat_yes (PySem.W.kat_cons (eqBool_same (by simp) ?_))
    refine PySem.W.kat_go (fun _ => PySem.W.kat_yes (PySem.W.kat_nil ⟨rfl, ?_⟩)) (fun z => absurd z (by decide))
    rw [ex]; simp
  · exact PySem.W.kat_no (oneLt_int ⟨rfl, rfl⟩)
theorem fst_tups {h : Heap} : ∀ {vs : List Value} (k : Value → Int), (∀ v ∈ vs, IsF h v (k v)) → ∃ fs : List Value, PySem.W.KatTups h vs fs ∧ fs.length = vs.length ∧ ∀ f ∈ fs, ∃ x t, f = Value.int x t
  | [], k, _ => ⟨[], PySem.W.KatTups.nil, rfl, fun _ hm => by cases hm⟩
  | v :: vs, k, hp => by
    obtain ⟨fs, h1, h2, h3⟩ := fst_tups (vs := vs) k fun u hu => hp u (List.mem_cons_of_mem _ hu)
    obtain ⟨a, o, t, u, n, e, ho, hc, hd⟩ := hp v List.mem_cons_self
    subst e
    refine ⟨.int _ t :: fs, PySem.W.KatTups.cons ho hc hd rfl h1, by simp [h2], fun f hm => ?_⟩
    rcases List.mem_cons.mp hm with rfl | hm
    · exact ⟨_, t, rfl⟩
    · exact h3 f hm
theorem fst_sortable {a : Addr} {vs : List Value} {k : Value → Int} (h0 : 0 < vs.length) (hp : ∀ v ∈ vs, IsF s.heap v (k v)) (inj : ∀ v ∈ vs, ∀ u ∈ vs, k v = k u → v = u) (ha : ∀ o, s.heap.get? a = some o → o.cls ≠ .type "tuple") : SrtO.SortableO P w A s a vs fun v u => decide (k v < k u) := by
  intro h' keep
  have hp' : ∀ v ∈ vs, IsF h' v (k v) := fun v hm => by
    obtain ⟨b, o, t, u, n, e, ho, hc, hd⟩ := hp v hm
    exact ⟨b, o, t, u, n, e, keep b o (fun z => by subst z; exact ha o ho hc) ho, hc, hd⟩
  obtain ⟨fs, h1, h2, h3⟩ := fst_tups k hp'
  refine ⟨tuples' true, fun Q E hq => ?_, fst_cmp hp' inj⟩
  refine PySem.W.kat_kind (T := .type "int") h1 (by omega) (fun f hm => ?_) (by rfl) ?_
  · obtain ⟨x, t, rfl⟩ := h3 f hm
    exact PySem.W.Looks.now
  · rw [show (Value.type "int" != Value.type "tuple") = true by decide]
    exact hq
theorem swo_key (k : Value → Int) : SrtO.Swo fun v u => decide (k v < k u) := ⟨fun x y h => by simp at h ⊢; omega, fun x y z h1 h2 => by simp at h1 h2 ⊢; omega⟩
end
section
variable {X : Cx}
/-- sorted(xs), tuples of an int and something, the ints distinct -/
def rFst (K : PySem.W.Frag) : List V → Hp → VK → Prop := fun vs H Q => ∃ (l : Addr) (L : List (Addr × Int)), vs = [V.ref l] ∧ SqL K H l (L.map fun r => V.ref r.1) ∧ (∀ r ∈ L, ∃ u, SqT K H r.1 [V.int r.2, u]) ∧ (L.map (·.2)).Nodup ∧
  ∀ (L' : List (Addr × Int)) (p : Addr), L'.Perm L → (L'.map (·.2)).Pairwise (· ≤ ·) → H p = none → Q (.ref p) (upd H p (.lst (L'.map fun r => V.ref r.1)))
theorem rows_vals : ∀ {L : List (Addr × Int)} {us : List Value}, Vals (L.map fun r => V.ref r.1) us → us = L.map fun r => Value.ref r.1
  | [], _, .nil => rfl
  | r :: L, _, .cons h t => by
    cases h
    rw [rows_vals t]; rfl
theorem vals_rows {α : Type} : ∀ L : List (Addr × α), Vals (L.map fun r => V.ref r.1) (L.map fun r => Value.ref r.1)
  | [] => .nil
  | r :: L => .cons rfl (vals_rows L)
theorem cr_sortFst : CallR X (.builtin "sorted") (rFst X.K) := by
  intro pins s σ H vs us Q I r h
  obtain ⟨l, L, rfl, hs, ht, nd, q⟩ := h
  obtain ⟨its, rv, hl, hz⟩ := I.list hs
  rw [Vals.ref1 r]
  have ei := rows_vals rv
  subst ei
  rw [List.length_map] at hz
  have isF : ∀ r ∈ L, IsF s.heap (.ref r.1) r.2 := fun r hr => by
    obtain ⟨u, hu⟩ := ht r hr
    obtain ⟨its2, r2, ⟨o, ho, hc, n, hd⟩, _⟩ := I.tuple hu
    obtain ⟨u1, u2, rfl, ri, rj⟩ := vals2 r2
    obtain ⟨t1, rfl⟩ := ri
    exact ⟨r.1, o, t1, u2, n, rfl, ho, hc, hd⟩
  have kf : ∀ r ∈ L, fst0 s.heap (.ref r.1) = r.2 := fun r hr => (isF r hr).fst
  have hp : ∀ v ∈ L.map (fun r => Value.ref r.1), IsF s.heap v (fst0 s.heap v) := fun v hv => by
    obtain ⟨r, hr, rfl⟩ := List.mem_map.mp hv
    rw [kf r hr]; exact isF r hr
  have inj : ∀ v ∈ L.map (fun r => Value.ref r.1), ∀ u ∈ L.map (fun r => Value.ref r.1), fst0 s.heap v = fst0 s.heap u → v = u := fun v hv u hu e => by
    obtain ⟨r, hr, rfl⟩ := List.mem_map.mp hv
    obtain ⟨r', hr', rfl⟩ := List.mem_map.mp hu
    rw [kf r hr, kf r' hr'] at e
    have : r = r' := by
      obtain ⟨i, hi⟩ := List.mem_iff_getElem?.mp hr
      obtain ⟨j, hj⟩ := List.mem_iff_getElem?.mp hr'
      have ni := List.getElem?_eq_some_iff.mp hi
      have nj := List.getElem?_eq_some_iff.mp hj
      have hij : i = j := by
        refine Classical.byContradiction fun ne => ?_
        have l1 : i < (L.map (·.2)).length := by rw [List.length_map]; exact ni.1
        have l2 : j < (L.map (·.2)).length := by rw [List.length_map]; exact nj.1
        have ee : (L.map (·.2))[i] = (L.map (·.2))[j] := by rw [List.getElem_map, List.getElem_map, ni.2, nj.2]; exact e
        rcases Nat.lt_or_gt_of_ne ne with c | c
        · exact List.pairwise_iff_getElem.mp nd i j l1 l2 c ee
        · exact List.pairwise_iff_getElem.mp nd j i l2 l1 c ee.symm
      subst hij
      rw [hi] at hj
      exact Option.some.inj hj
    rw [this]
  refine SrtO.sorted_ord (swo_key (fst0 s.heap)) hl.isList (by rw [List.length_map]; exact hz) (fun h2 h₁ b hb keep => ?_) fun out h1 h2 => ?_
  · refine fst_sortable (s := { s with heap := h₁ }) (by omega) (fun v hv => ?_) inj fun o e => ?_
    · obtain ⟨c, o, t, u, n, e, ho, hc, hd⟩ := hp v hv
      exact ⟨c, o, t, u, n, e, (keep c o ho).2, hc, hd⟩
    · rw [show (({ s with heap := h₁ } : Shared).heap.get? b) = _ from hb] at e
      cases e
      intro c
      exact absurd (Value.type.inj c) (by decide)
  · obtain ⟨L', p1, p2⟩ := perm_map_back (fun r : Addr × Int => Value.ref r.1) h2.perm
    subst p2
    have ps : (L'.map (·.2)).Pairwise (· ≤ ·) := by
      have := List.pairwise_map.mp h1
      refine List.pairwise_map.mpr (List.Pairwise.imp_of_mem (fun {x y} hx hy h => ?_) this)
      have h : decide (fst0 s.heap (Value.ref y.1) < fst0 s.heap (Value.ref x.1)) = false := h
      rw [kf x (p1.mem_iff.mp hx), kf y (p1.mem_iff.mp hy)] at h
      simpa using h
    obtain ⟨ep, he⟩ := sortedAll_at s.heap (L.map fun r => Value.ref r.1) (L'.map fun r => Value.ref r.1).toArray
    exact ⟨.ref _, upd H (s.heap.objs.size + 1) (.lst (L'.map fun r => V.ref r.1)), I.laid (t' := s.toks) (fun _ _ => sortedAll_old) (Nat.le_succ _) ⟨by rw [List.length_map, p1.length_eq]; exact hz, _, ep, vals_rows L', he⟩, rfl, q L' _ p1 ps (I.hok.fresh (Nat.le_succ _))⟩
end
end DL

/-! sets of ints; sorted dicts -/
namespace DL
open PySem PySem.Spec PyProof.Rows L2
theorem ints_at' : ∀ {us : List Value} {ns : List Int}, IntsAre us ns → ∀ (i : Nat) (v : Value), us[i]? = some v → ∃ k t, ns[i]? = some k ∧ v = .int k t
  | _, _, .nil, i, v, h => by simp at h
  | _, _, .cons n t r, 0, v, h => by simp at h; exact ⟨n, t, rfl, h.symm⟩
  | _, _, .cons n t r, i + 1, v, h => by
    obtain ⟨k, t', e1, e2⟩ := ints_at' r i v (by simpa using h)
    exact ⟨k, t', by simpa using e1, e2⟩
section
variable {P : Program} {w : World} {A : Around} {E : Value → Shared → Prop} {s : Shared}
/-- set(xs), xs a list of ints -/
theorem call_setI {l : Addr} {items : Array Value} (ks : List Int) {Q : Value → Shared → Prop} (hh : A.handled = none) (hl : s.heap.IsList l items) (hit : IntsAre items.toList ks) (hfew : ks.length + 1 < scanBound)
    (q : ∀ (h' : Heap) (tk c : Nat), SetR w h' s.heap.objs.size (fun j => decide (j ∈ ks)) c → c ≤ ks.length → (∀ b o, s.heap.get? b = some o → h'.get? b = some o) → Q (.ref s.heap.objs.size) { s with heap := h', toks := tk }) :
    wpAny (model P w) A (call (.type "set") [.ref l]) Q E s := by
  have hisz : items.size = ks.length := by rw [← Array.length_toList]; exact IntsAre.length hit
  refine set_call (Q₁ := fun obj s₁ => obj = .ref s.heap.objs.size ∧ s₁ = { s with heap := s.heap.push (newSet w) }) (code_set_led1 _ ⟨rfl, rfl⟩) fun obj s₁ h₁ => ?_
  obtain ⟨rfl, rfl⟩ := h₁
  have hS : (s.heap.push (newSet w)).get? s.heap.objs.size = some (newSet w) := Heap.get?_push_size _ rfl
  refine ⟨⟨_, hS, rfl⟩, ?_⟩
  have none_of : ∀ b, s.heap.objs.size ≤ b → s.heap.get? b = none := fun b hb => Classical.byContradiction fun z => by
    obtain ⟨o, e⟩ := Option.ne_none_iff_exists'.mp z
    exact absurd (Heap.lt_size e) (Nat.not_lt.mpr hb)
  obtain ⟨⟨ocls, odict, odata, oslots⟩, hol, hcl, nl, hdl⟩ := hl
  obtain rfl : ocls = .type "list" := hcl
  obtain rfl : odata = .seq items nl := hdl
  have hlS : l < s.heap.objs.size := Heap.lt_size hol
  have onL := Heap.get?_push_of_some (newSet w) hol
  have isL : (s.heap.push (newSet w)).IsList l items := ⟨_, onL, rfl, nl, rfl⟩
  have hsz1 : (s.heap.push (newSet w)).objs.size = s.heap.objs.size + 1 := Heap.size_push ..
  have q1 := F.sub_list_set; have q2 := F.sub_list_frozenset
  have q3 : (Value.type "list" == Value.type "dict") = false := by decide
  unfold Builtin.«set.__init__» noKeywords Builtin.Frozenset.updateFrom
  generalize hPI : pyIter = PI
  wp_walk
  subst hPI
  refine wpAny_pyIter_list isL (wpAny_bind (wpAny_runValue ?_))
  have hnI : l ≠ (s.heap.push (newSet w)).objs.size := by rw [hsz1]; exact Nat.ne_of_lt (Nat.lt_succ_of_lt hlS)
  have hval : ∀ (i : Nat) (v : Value), items[i]? = some v → ∃ k t, ks[i]? = some k ∧ v = .int k t := fun i v hv => by
    rw [← Array.getElem?_toList] at hv
    exact ints_at' hit i v hv
  refine set_update_ints ((Walks.list (show A.in1.in1.in1.handled = none by simp [hh]) _ l hnI items).toS) s.heap.objs.size (by
      rw [hsz1]; simp only [List.mem_cons, List.not_mem_nil, or_false, not_or]; exact ⟨Nat.ne_of_lt (Nat.lt_succ_self _), Nat.ne_of_gt hlS⟩) ks hisz hfew hval items.size 0 _ (by omega) (Nat.zero_le _) ⟨⟨_, Heap.get?_push_size _ rfl, rfl, rfl⟩, isL.push _⟩
      ⟨0, Nat.le_refl _, setR_new_at (Heap.get?_push_of_some _ hS)⟩ ?_
  intro s' c hm hc hS'
  have hkp : ∀ b o, s.heap.get? b = some o → s'.heap.get? b = some o := fun b o e => hm.heap b o (by
    simp only [List.mem_cons, List.not_mem_nil, or_false, not_or]
    have := Heap.lt_size e
    exact ⟨Nat.ne_of_lt this, by rw [hsz1]; exact Nat.ne_of_lt (Nat.lt_succ_of_lt this)⟩) (Heap.get?_push_of_some _ (Heap.get?_push_of_some _ e))
  obtain ⟨h', gg, dd, tk', os'⟩ := s'
  obtain rfl : gg = s.gens := hm.gens
  obtain rfl : dd = s.drawn := hm.drawn
  obtain rfl : os' = s.os := hm.os
  exact wpAny_pure (wpAny_pure ⟨rfl, q h' tk' c hS' (by omega) hkp⟩)
end
section
variable {X : Cx}
/-- sorted(d), d a dict of any number of int keys -/
def rSortD : List V → Hp → VK → Prop := fun vs H Q => ∃ (a : Addr) (kvs : List (Key × V)) (ks : List Int), vs = [V.ref a] ∧ H a = some (.dK kvs) ∧ kvs.map (·.1) = ks.map Sum.inl ∧
  ∀ (ys : List Int) (p : Addr), ys.Perm ks → ys.Pairwise (· ≤ ·) → H p = none → Q (.ref p) (upd H p (.lst (ys.map V.int)))
theorem cr_sortD (hc : X.calm = true) : CallR X (.builtin "sorted") rSortD := by
  intro pins s σ H vs us Q I r h
  obtain ⟨a, kvs, ks, rfl, hd, hks, q⟩ := h
  rw [Vals.ref1 r]
  obtain ⟨z, lo, vs, rel, dd⟩ := dk_rd I.hok (.inl hd)
  obtain ⟨ep, hat⟩ := dd.dictAt
  have hkeys : vs.map (·.1) = ks.map Sum.inl := rel.keys.symm.trans hks
  have hl : vs.length = ks.length := by
    have e := congrArg List.length hkeys
    simpa using e
  have hz : ks.length ≤ sizeLine := by
    have e := congrArg List.length hks
    simp only [List.length_map] at e
    omega
  refine sorted_by SrtO.swo_int (fun us s1 => IntsAre us ks ∧ (∀ b o, s.heap.get? b = some o → s1.heap.get? b = some o) ∧ ∃ h' tk, s1 = { s with heap := h', toks := tk })
    (fun E' => PySem.W.kdu_collect (A := X.A.in1) (PySem.W.kdl_dict (knd := mixKind X.prog X.w) (kvs := vs) (ep := ep) lo) (I.ok.hd hc) hat (by omega) fun h' tk acc hk hacc => ⟨?_, hk, h', tk, rfl⟩)
    (fun us s1 ⟨hI, _⟩ => by rw [hI.length]; exact hz) (fun us s1 ⟨hI, _⟩ h2 h₁ b _ _ => SrtO.ints_sortable hI h2) ?_
  · refine ints_each (by rw [Array.length_toList, hacc.1, hl]) fun j v e => ?_
    obtain ⟨k, x, e1, e2⟩ := hacc.2 j v (by rw [← Array.getElem?_toList]; exact e)
    have e3 : (ks.map Sum.inl)[j]? = some k := by rw [← hkeys, List.getElem?_map, e1]; rfl
    rw [List.getElem?_map] at e3
    obtain ⟨y, e4, rfl⟩ := Option.map_eq_some_iff.mp e3
    rcases keyIs_shape (show keyIs (Sum.inl y) v = true from e2) with ⟨i, t, ek, ev⟩ | ⟨z, t, ek, ev⟩
    · cases ek; exact ⟨y, t, e4, ev⟩
    · cases ek
  · rintro us s1 out ⟨hI, hk, h', tk, rfl⟩ hs hb h2 p n kp hp hn
    obtain ⟨k1, k2, k3⟩ := SrtO.ints_out hI hs hb
    have I1 : Inv X pins σ H { s with heap := h', toks := tk } := I.kept hk
    have I2 := I1.laid (t' := tk) (h' := h2) (o := .lst ((out.map SrtO.iv).map V.int)) kp hp ⟨by rw [List.length_map, k2.length_eq]; exact hz, out, n, vals_of_ints k1, hn⟩
    exact ⟨.ref p, _, I2, rfl, q _ p k2 k3 (I1.hok.fresh hp)⟩
end
end DL

set_option maxHeartbeats 1000000
namespace DL
open PySem PySem.Spec PyProof.Rows L2

/-- plain values -/
inductive D where
  | non | bl (b : Bool) | int (i : Int) | str (s : Str) | tup (ds : List D) | lst (ds : List D)
  | dic (kvs : List (Int × Int)) | dicL (kvs : List (Int × Int)) | row (ts bs : List Int) | bag

/-- what of the text the values lean on: the written part, the class of the rows -/
structure Zc where
  K : PySem.W.Frag
  C : Addr

def encD (kvs : List (Int × Int)) : List (Key × V) := kvs.map fun p => (Sum.inl p.1, V.int p.2)

def RowAt (Z : Zc) (F : Hp) (a : Addr) (ts bs : List Int) : Prop :=
  ∃ dx vs p q, F a = some (SlX.SlO a Z.C dx vs) ∧ F dx = some (.xd []) ∧ vs[5]? = some (some (V.ref p)) ∧ vs[1]? = some (some (V.ref q)) ∧
    SqT Z.K F p (ts.map V.int) ∧ SqT Z.K F q (bs.map V.int)

mutual
def Rep (Z : Zc) (B : Addr) (F : Hp) : D → V → Prop
  | .non, v => v = .non
  | .bl b, v => v = .bl b
  | .int i, v => v = .int i
  | .str s, v => v = .str s
  | .tup ds, v => ∃ a xs, v = .ref a ∧ SqT Z.K F a xs ∧ Reps Z B F ds xs
  | .lst ds, v => ∃ a xs, v = .ref a ∧ F a = some (.lst xs) ∧ Reps Z B F ds xs
  | .dic kvs, v => ∃ a, v = .ref a ∧ F a = some (.dK (encD kvs))
  | .dicL kvs, v => ∃ a o, v = .ref a ∧ F a = some (.frz o (.dK (encD kvs)))
  | .row ts bs, v => ∃ a, v = .ref a ∧ RowAt Z F a ts bs
  | .bag, v => v = .ref B
def Reps (Z : Zc) (B : Addr) (F : Hp) : List D → List V → Prop
  | [], xs => xs = []
  | d :: ds, xs => ∃ x r, xs = x :: r ∧ Rep Z B F d x ∧ Reps Z B F ds r
end

def Le (F G : Hp) : Prop := ∀ a o, F a = some o → G a = some o
theorem Le.refl (F : Hp) : Le F F := fun _ _ h => h
theorem Le.trans {F G H : Hp} (h : Le F G) (k : Le G H) : Le F H := fun a o e => k a o (h a o e)
theorem Le.rd {F G : Hp} (h : Le F G) {a : Addr} {u : HO} (r : Rd F a u) : Rd G a u := by
  rcases r with r | ⟨o, r⟩
  · exact .inl (h _ _ r)
  · exact .inr ⟨o, h _ _ r⟩
theorem Le.sqL {F G : Hp} (h : Le F G) {K : PySem.W.Frag} {a : Addr} {xs : List V} (r : SqL K F a xs) : SqL K G a xs := by
  rcases r with r | r
  · exact .inl (h.rd r)
  · exact .inr r
theorem Le.sqT {F G : Hp} (h : Le F G) {K : PySem.W.Frag} {a : Addr} {xs : List V} (r : SqT K F a xs) : SqT K G a xs := by
  rcases r with r | r
  · exact .inl (h.rd r)
  · exact .inr r
theorem RowAt.mono {Z : Zc} {F G : Hp} (h : Le F G) {a : Addr} {ts bs : List Int} (r : RowAt Z F a ts bs) : RowAt Z G a ts bs := by
  obtain ⟨dx, vs, p, q, h1, h2, h3, h4, h5, h6⟩ := r
  exact ⟨dx, vs, p, q, h _ _ h1, h _ _ h2, h3, h4, h.sqT h5, h.sqT h6⟩

mutual
theorem Rep.mono {Z : Zc} {B : Addr} {F G : Hp} (h : Le F G) : ∀ {d : D} {v : V}, Rep Z B F d v → Rep Z B G d v
  | .non, _, r => r
  | .bl _, _, r => r
  | .int _, _, r => r
  | .str _, _, r => r
  | .tup _, _, r => by
    obtain ⟨a, xs, e, s, q⟩ := r
    exact ⟨a, xs, e, h.sqT s, Reps.mono h q⟩
  | .lst _, _, r => by
    obtain ⟨a, xs, e, s, q⟩ := r
    exact ⟨a, xs, e, h _ _ s, Reps.mono h q⟩
  | .dic _, _, r => by
    obtain ⟨a, e, s⟩ := r
    exact ⟨a, e, h _ _ s⟩
  | .dicL _, _, r => by
    obtain ⟨a, o, e, s⟩ := r
    exact ⟨a, o, e, h _ _ s⟩
  | .row _ _, _, r => by
    obtain ⟨a, e, s⟩ := r
    exact ⟨a, e, s.mono h⟩
  | .bag, _, r => r
theorem Reps.mono {Z : Zc} {B : Addr} {F G : Hp} (h : Le F G) : ∀ {ds : List D} {xs : List V}, Reps Z B F ds xs → Reps Z B G ds xs
  | [], _, r => r
  | _ :: _, _, r => by
    obtain ⟨x, t, e, r1, r2⟩ := r
    exact ⟨x, t, e, Rep.mono h r1, Reps.mono h r2⟩
end

section
variable {Z : Zc} {B : Addr} {F G : Hp}
theorem Reps.nil : Reps Z B F [] [] := rfl
theorem Reps.cons {d : D} {v : V} {ds : List D} {xs : List V} (h : Rep Z B F d v) (k : Reps Z B F ds xs) : Reps Z B F (d :: ds) (v :: xs) := ⟨v, xs, rfl, h, k⟩
theorem Reps.nil_inv {xs : List V} (h : Reps Z B F [] xs) : xs = [] := h
theorem Reps.cons_inv {d : D} {ds : List D} {xs : List V} (h : Reps Z B F (d :: ds) xs) : ∃ x r, xs = x :: r ∧ Rep Z B F d x ∧ Reps Z B F ds r := h
theorem Reps.length : ∀ {ds : List D} {xs : List V}, Reps Z B F ds xs → xs.length = ds.length
  | [], _, h => by rw [h.nil_inv]; rfl
  | d :: ds, _, h => by
    obtain ⟨x, r, rfl, _, k⟩ := h.cons_inv
    rw [List.length_cons, List.length_cons, Reps.length k]
theorem Reps.append : ∀ {ds es : List D} {xs ys : List V}, Reps Z B F ds xs → Reps Z B F es ys → Reps Z B F (ds ++ es) (xs ++ ys)
  | [], _, _, _, h, k => by rw [h.nil_inv]; exact k
  | d :: ds, _, _, _, h, k => by
    obtain ⟨x, r, rfl, h1, h2⟩ := h.cons_inv
    exact Reps.cons h1 (Reps.append h2 k)
theorem Reps.get : ∀ {ds : List D} {xs : List V} {i : Nat} {d : D}, Reps Z B F ds xs → ds[i]? = some d → ∃ v, xs[i]? = some v ∧ Rep Z B F d v
  | [], _, _, _, _, e => by simp at e
  | d :: ds, _, 0, _, h, e => by
    obtain ⟨x, r, rfl, h1, h2⟩ := h.cons_inv
    simp at e; subst e
    exact ⟨x, rfl, h1⟩
  | d :: ds, _, i + 1, _, h, e => by
    obtain ⟨x, r, rfl, h1, h2⟩ := h.cons_inv
    obtain ⟨v, e1, r1⟩ := Reps.get (i := i) h2 (by simpa using e)
    exact ⟨v, by simpa using e1, r1⟩
theorem Reps.get' : ∀ {ds : List D} {xs : List V} {i : Nat} {v : V}, Reps Z B F ds xs → xs[i]? = some v → ∃ d, ds[i]? = some d ∧ Rep Z B F d v
  | [], _, _, _, h, e => by rw [h.nil_inv] at e; simp at e
  | d :: ds, _, 0, _, h, e => by
    obtain ⟨x, r, rfl, h1, h2⟩ := h.cons_inv
    simp at e; subst e
    exact ⟨d, rfl, h1⟩
  | d :: ds, _, i + 1, _, h, e => by
    obtain ⟨x, r, rfl, h1, h2⟩ := h.cons_inv
    obtain ⟨v, e1, r1⟩ := Reps.get' (i := i) h2 (by simpa using e)
    exact ⟨v, by simpa using e1, r1⟩
theorem Reps.take : ∀ {ds : List D} {xs : List V} (n : Nat), Reps Z B F ds xs → Reps Z B F (ds.take n) (xs.take n)
  | _, _, 0, _ => rfl
  | [], _, n + 1, h => by rw [h.nil_inv]; rfl
  | d :: ds, _, n + 1, h => by
    obtain ⟨x, r, rfl, h1, h2⟩ := h.cons_inv
    exact Reps.cons h1 (Reps.take n h2)
theorem Reps.drop : ∀ {ds : List D} {xs : List V} (n : Nat), Reps Z B F ds xs → Reps Z B F (ds.drop n) (xs.drop n)
  | _, _, 0, h => h
  | [], _, n + 1, h => by rw [h.nil_inv]; rfl
  | d :: ds, _, n + 1, h => by
    obtain ⟨x, r, rfl, h1, h2⟩ := h.cons_inv
    exact Reps.drop n h2
theorem Reps.set : ∀ {ds : List D} {xs : List V} (i : Nat) {d : D} {v : V}, Reps Z B F ds xs → Rep Z B F d v → Reps Z B F (ds.set i d) (xs.set i v)
  | [], _, _, _, _, h, _ => by rw [h.nil_inv]; exact Reps.nil
  | d :: ds, _, 0, _, _, h, k => by
    obtain ⟨x, r, rfl, h1, h2⟩ := h.cons_inv
    exact Reps.cons k h2
  | d :: ds, _, i + 1, _, _, h, k => by
    obtain ⟨x, r, rfl, h1, h2⟩ := h.cons_inv
    exact Reps.cons h1 (Reps.set i h2 k)
theorem Reps.reverse : ∀ {ds : List D} {xs : List V}, Reps Z B F ds xs → Reps Z B F ds.reverse xs.reverse
  | [], _, h => by rw [h.nil_inv]; exact Reps.nil
  | d :: ds, _, h => by
    obtain ⟨x, r, rfl, h1, h2⟩ := h.cons_inv
    rw [List.reverse_cons, List.reverse_cons]
    exact Reps.append (Reps.reverse h2) (Reps.cons h1 Reps.nil)
theorem Reps.ints : ∀ {is : List Int} {xs : List V}, Reps Z B F (is.map D.int) xs → xs = is.map V.int
  | [], _, h => h.nil_inv
  | i :: is, _, h => by
    obtain ⟨x, r, rfl, h1, h2⟩ := h.cons_inv
    rw [show x = V.int i from h1, Reps.ints h2]; rfl
theorem Reps.ofInts : ∀ (is : List Int), Reps Z B F (is.map D.int) (is.map V.int)
  | [] => Reps.nil
  | i :: is => Reps.cons rfl (Reps.ofInts is)
end

/-- the bag: three ints -/
def IsBag (H : Hp) (B : Addr) : Prop := ∃ x y z : Int, H B = some (.lst [.int x, .int y, .int z]) ∧ 0 ≤ x ∧ x < 2 ^ 2000 ∧ 0 ≤ y ∧ y < 2 ^ 64 ∧ 0 ≤ z
structure HdOk (B : Addr) (F H : Hp) : Prop where
  le : Le F H
  fb : F B = none
  bag : IsBag H B
structure Fr (B : Addr) (H F H' F' : Hp) : Prop where
  keep : ∀ a o, a ≠ B → H a = some o → H' a = some o
  new : ∀ a, H a ≠ none → F' a = F a
  hd : HdOk B F' H'
theorem IsBag.ne {H : Hp} {B : Addr} (h : IsBag H B) : H B ≠ none := by
  obtain ⟨x, y, z, e, _⟩ := h
  rw [e]; simp
section
variable {Z : Zc} {B : Addr} {H F H' F' H'' F'' H0 : Hp}
theorem Fr.refl (h : HdOk B F H) : Fr B H F H F := ⟨fun _ _ _ e => e, fun _ _ => rfl, h⟩
theorem Fr.some (f : Fr B H F H' F') (hh : HdOk B F H) {a : Addr} (h : H a ≠ none) : H' a ≠ none := by
  by_cases e : a = B
  · rw [e]; exact f.hd.bag.ne
  · cases q : H a with
    | none => exact absurd q h
    | some o => rw [f.keep a o e q]; simp
theorem Fr.trans (h : HdOk B F H) (f : Fr B H F H' F') (g : Fr B H' F' H'' F'') : Fr B H F H'' F'' :=
  ⟨fun a o ne e => g.keep a o ne (f.keep a o ne e), fun a e => (g.new a (f.some h e)).trans (f.new a e), g.hd⟩
theorem Fr.leF (f : Fr B H F H' F') (h : HdOk B F H) : Le F F' := fun a o e => by
  rw [f.new a (by rw [h.le a o e]; simp)]; exact e
/-- nothing changes but a new frozen object -/
theorem Fr.laid (h : HdOk B F H) {p : Addr} {o : HO} (hp : H p = none) : Fr B H F (upd H p o) (upd F p o) := by
  have hb : p ≠ B := fun e => h.bag.ne (by rw [← e]; exact hp)
  refine ⟨fun a u ne e => ?_, fun a e => ?_, ⟨fun a u e => ?_, ?_, ?_⟩⟩
  · rw [upd_ne (ne_of_none e hp)]; exact e
  · rw [upd_ne]; intro z; rw [z] at e; exact e hp
  · by_cases z : a = p
    · subst z; rw [upd_same] at e ⊢; exact e
    · rw [upd_ne z] at e ⊢; exact h.le a u e
  · rw [upd_ne (Ne.symm hb)]; exact h.fb
  · obtain ⟨x, y, z, e, q⟩ := h.bag
    exact ⟨x, y, z, by rw [upd_ne (Ne.symm hb)]; exact e, q⟩
/-- a new object that is not frozen -/
theorem Fr.laidN (h : HdOk B F H) {p : Addr} {o : HO} (hp : H p = none) : Fr B H F (upd H p o) F := by
  have hb : p ≠ B := fun e => h.bag.ne (by rw [← e]; exact hp)
  refine ⟨fun a u ne e => ?_, fun a e => rfl, ⟨fun a u e => ?_, h.fb, ?_⟩⟩
  · rw [upd_ne (ne_of_none e hp)]; exact e
  · rw [upd_ne (ne_of_none (h.le a u e) hp)]; exact h.le a u e
  · obtain ⟨x, y, z, e, q⟩ := h.bag
    exact ⟨x, y, z, by rw [upd_ne (Ne.symm hb)]; exact e, q⟩
theorem HdOk.noneF (h : HdOk B F H) {p : Addr} (hp : H p = none) : F p = none := by
  cases e : F p with
  | none => rfl
  | some o => rw [h.le p o e] at hp; cases hp
theorem HdOk.neB (h : HdOk B F H) {p : Addr} {o : HO} (hp : F p = some o) : p ≠ B := fun e => by
  rw [e, h.fb] at hp; cases hp
theorem HdOk.newB (h : HdOk B F H) {p : Addr} (hp : H p = none) : p ≠ B := fun e => h.bag.ne (by rw [← e]; exact hp)
theorem le_upd {p : Addr} {o : HO} (hp : F p = none) : Le F (upd F p o) := fun a u e => by
  rw [upd_ne (ne_of_none e hp)]; exact e
end

/-- the outermost object of a list, of a dict -/
def Top (Z : Zc) (B : Addr) (F : Hp) (o : HO) : D → Prop
  | .lst ds => ∃ xs, o = .lst xs ∧ Reps Z B F ds xs
  | .dic kvs => o = .dK (encD kvs)
  | _ => False
theorem Top.mono {Z : Zc} {B : Addr} {F G : Hp} (h : Le F G) {o : HO} : ∀ {d : D}, Top Z B F o d → Top Z B G o d
  | .lst _, ⟨xs, e, r⟩ => ⟨xs, e, r.mono h⟩
  | .dic _, r => r
/-- what is read: frozen, or an object of its own -/
def RepV (Z : Zc) (B : Addr) (F H : Hp) (d : D) (v : V) : Prop := Rep Z B F d v ∨ ∃ a o, v = .ref a ∧ a ≠ B ∧ H a = some o ∧ Top Z B F o d
inductive Kd | new | frz | view
  deriving DecidableEq
def Res (Z : Zc) (B : Addr) (H F' H' : Hp) (d : D) (v : V) : Kd → Prop
  | .new => ∃ a o, v = .ref a ∧ H a = none ∧ F' a = none ∧ H' a = some o ∧ Top Z B F' o d
  | .frz => Rep Z B F' d v
  | .view => RepV Z B F' H' d v
section
variable {Z : Zc} {B : Addr} {H F H' F' H'' F'' H0 : Hp} {d : D} {v : V}
theorem RepV.step (h : HdOk B F H) (f : Fr B H F H' F') (r : RepV Z B F H d v) : RepV Z B F' H' d v := by
  rcases r with r | ⟨a, o, e, ne, ho, t⟩
  · exact .inl (r.mono (f.leF h))
  · exact .inr ⟨a, o, e, ne, f.keep a o ne ho, t.mono (f.leF h)⟩
theorem RepV.lst {ds : List D} (h : HdOk B F H) (r : RepV Z B F H (.lst ds) v) : ∃ a xs, v = .ref a ∧ H a = some (.lst xs) ∧ Reps Z B F ds xs := by
  rcases r with ⟨a, xs, e, s, q⟩ | ⟨a, o, e, ne, ho, xs, eo, q⟩
  · exact ⟨a, xs, e, h.le _ _ s, q⟩
  · subst eo; exact ⟨a, xs, e, ho, q⟩
theorem RepV.dic {kvs : List (Int × Int)} (h : HdOk B F H) (r : RepV Z B F H (.dic kvs) v) : ∃ a, v = .ref a ∧ H a = some (.dK (encD kvs)) := by
  rcases r with ⟨a, e, s⟩ | ⟨a, o, e, ne, ho, eo⟩
  · exact ⟨a, e, h.le _ _ s⟩
  · rw [show o = _ from eo] at ho; exact ⟨a, e, ho⟩
theorem RepV.tup {ds : List D} (r : RepV Z B F H (.tup ds) v) : Rep Z B F (.tup ds) v := by
  rcases r with r | ⟨_, _, _, _, _, z⟩
  · exact r
  · exact z.elim
theorem RepV.int {i : Int} (r : RepV Z B F H (.int i) v) : v = .int i := by
  rcases r with r | ⟨_, _, _, _, _, z⟩
  · exact r
  · exact z.elim
theorem RepV.bl {i : Bool} (r : RepV Z B F H (.bl i) v) : v = .bl i := by
  rcases r with r | ⟨_, _, _, _, _, z⟩
  · exact r
  · exact z.elim
theorem RepV.non (r : RepV Z B F H .non v) : v = .non := by
  rcases r with r | ⟨_, _, _, _, _, z⟩
  · exact r
  · exact z.elim
theorem RepV.str {i : Str} (r : RepV Z B F H (.str i) v) : v = .str i := by
  rcases r with r | ⟨_, _, _, _, _, z⟩
  · exact r
  · exact z.elim
theorem RepV.row {ts bs : List Int} (r : RepV Z B F H (.row ts bs) v) : Rep Z B F (.row ts bs) v := by
  rcases r with r | ⟨_, _, _, _, _, z⟩
  · exact r
  · exact z.elim
theorem RepV.dicL {kvs : List (Int × Int)} (r : RepV Z B F H (.dicL kvs) v) : Rep Z B F (.dicL kvs) v := by
  rcases r with r | ⟨_, _, _, _, _, z⟩
  · exact r
  · exact z.elim
theorem RepV.bag (r : RepV Z B F H .bag v) : v = .ref B := by
  rcases r with r | ⟨_, _, _, _, _, z⟩
  · exact r
  · exact z.elim
/-- what is new may be frozen -/
theorem Res.freeze (f : Fr B H F H' F') (hh : HdOk B F H) (r : Res Z B H F' H' d v .new) : ∃ F2, Fr B H F H' F2 ∧ Rep Z B F2 d v := by
  obtain ⟨a, o, rfl, ha, hf, ho, t⟩ := r
  have nb := hh.newB ha
  have le : Le F' (upd F' a o) := le_upd hf
  refine ⟨upd F' a o, ⟨f.keep, fun b hb => ?_, ⟨fun b u e => ?_, ?_, f.hd.bag⟩⟩, ?_⟩
  · rw [upd_ne]; exact f.new b hb
    intro z; rw [z] at hb; exact hb ha
  · by_cases z : b = a
    · subst z; rw [upd_same] at e; cases e; exact ho
    · rw [upd_ne z] at e; exact f.hd.le b u e
  · rw [upd_ne (Ne.symm nb)]; exact f.hd.fb
  · cases d with
    | lst ds =>
      obtain ⟨xs, e, q⟩ := t
      subst e
      exact ⟨a, xs, rfl, upd_same, q.mono le⟩
    | dic kvs => 
      refine ⟨a, rfl, ?_⟩
      rw [← show o = _ from t]; exact upd_same
    | _ => exact t.elim
end
end DL

namespace DL
open PySem PySem.Spec PyProof.Rows L2

/-! ### environments -/
/-- a slot: nothing known, a frozen value, an object of the def's own -/
inductive Sl | no | val (d : D) | own (d : D)
abbrev En := List Sl
def Sl.isOwn : Sl → Prop
  | .own _ => True
  | _ => False
def SlotOk (Z : Zc) (B : Addr) (H0 : Addr → Prop) (F H : Hp) (a : Addr) (x : Option (Option V)) : Sl → Prop
  | .no => True
  | .val d => ∃ v, x = some (some v) ∧ Rep Z B F d v
  | .own d => x = some (some (.ref a)) ∧ H0 a ∧ a ≠ B ∧ F a = none ∧ ∃ o, H a = some o ∧ Top Z B F o d
structure SR (Z : Zc) (B : Addr) (H0 : Addr → Prop) (F H : Hp) (σ : L2.St) (env : En) : Prop where
  len : σ.length = env.length
  ad : ∃ ad : Nat → Addr, (∀ i j s t, env[i]? = some s → env[j]? = some t → s.isOwn → t.isOwn → ad i = ad j → i = j) ∧
    ∀ i s, env[i]? = some s → SlotOk Z B H0 F H (ad i) σ[i]? s
section
variable {Z : Zc} {B : Addr} {H F H' F' H'' F'' : Hp} {H0 : Addr → Prop} {σ : L2.St} {env : En}
theorem SR.step (s : SR Z B H0 F H σ env) (h : HdOk B F H) (f : Fr B H F H' F') : SR Z B H0 F' H' σ env := by
  obtain ⟨ad, inj, q⟩ := s.ad
  refine ⟨s.len, ad, inj, fun i t e => ?_⟩
  have z := q i t e
  cases t with
  | no => trivial
  | val d =>
    obtain ⟨v, e1, r⟩ := z
    exact ⟨v, e1, r.mono (f.leF h)⟩
  | own d =>
    obtain ⟨e1, e2, e3, e4, o, e5, t⟩ := z
    exact ⟨e1, e2, e3, by rw [f.new _ (by rw [e5]; simp)]; exact e4, o, f.keep _ o e3 e5, t.mono (f.leF h)⟩
theorem SR.val (s : SR Z B H0 F H σ env) {i : Nat} {d : D} (e : env[i]? = some (.val d)) : ∃ v, σ[i]? = some (some v) ∧ Rep Z B F d v := by
  obtain ⟨ad, inj, q⟩ := s.ad
  exact q i _ e
theorem SR.own (s : SR Z B H0 F H σ env) {i : Nat} {d : D} (e : env[i]? = some (.own d)) : ∃ a o, σ[i]? = some (some (.ref a)) ∧ H0 a ∧ a ≠ B ∧ F a = none ∧ H a = some o ∧ Top Z B F o d := by
  obtain ⟨ad, inj, q⟩ := s.ad
  obtain ⟨e1, e2, e3, e4, o, e5, t⟩ := q i _ e
  exact ⟨_, o, e1, e2, e3, e4, e5, t⟩
theorem SR.set (s : SR Z B H0 F H σ env) {d : D} {v : V} (i : Nat) (r : Rep Z B F d v) : SR Z B H0 F H (σ.set i (some v)) (env.set i (.val d)) := by
  obtain ⟨ad, inj, q⟩ := s.ad
  have key : ∀ k s, (env.set i (.val d))[k]? = some s → s.isOwn → env[k]? = some s ∧ k ≠ i := fun k s e o => by
    by_cases h : i = k
    · subst h
      by_cases hl : i < env.length
      · rw [List.getElem?_set_self hl] at e; cases e; exact o.elim
      · rw [List.getElem?_eq_none (by simpa using hl)] at e; cases e
    · rw [List.getElem?_set_ne h] at e; exact ⟨e, fun z => h z.symm⟩
  refine ⟨by rw [List.length_set, List.length_set]; exact s.len, ad, fun j k s t e1 e2 o1 o2 e => inj j k s t (key j s e1 o1).1 (key k t e2 o2).1 o1 o2 e, fun j t e => ?_⟩
  by_cases h : i = j
  · subst h
    by_cases hl : i < env.length
    · rw [List.getElem?_set_self hl] at e; cases e
      exact ⟨v, List.getElem?_set_self (by rw [s.len]; exact hl), r⟩
    · rw [List.getElem?_eq_none (by simpa using hl)] at e; cases e
  · rw [List.getElem?_set_ne h] at e ⊢
    exact q j t e
/-- a new object becomes the def's own -/
theorem SR.setOwn (s : SR Z B H0 F H σ env) {d : D} {a : Addr} {o : HO} (i : Nat) (h0 : H0 a) (nb : a ≠ B) (hf : F a = none) (ho : H a = some o) (t : Top Z B F o d)
    (fresh : ∀ (j : Nat) (b : Addr) (e : D), env[j]? = some (Sl.own e) → σ[j]? = some (some (V.ref b)) → b ≠ a) : SR Z B H0 F H (σ.set i (some (.ref a))) (env.set i (.own d)) := by
  obtain ⟨ad, inj, q⟩ := s.ad
  have old : ∀ k s, k ≠ i → (env.set i (.own d))[k]? = some s → env[k]? = some s := fun k s h e => by
    rw [List.getElem?_set_ne (Ne.symm h)] at e; exact e
  have ne : ∀ k s, k ≠ i → env[k]? = some s → s.isOwn → ad k ≠ a := fun k s h e o => by
    cases s with
    | own e' =>
      obtain ⟨e1, _⟩ := q k _ e
      exact fresh k (ad k) e' e e1
    | _ => exact o.elim
  refine ⟨by rw [List.length_set, List.length_set]; exact s.len, fun k => if k = i then a else ad k, fun j k s t e1 e2 o1 o2 e => ?_, fun j t e => ?_⟩
  · by_cases hj : j = i
    · by_cases hk : k = i
      · rw [hj, hk]
      · simp only [hj, hk, if_true, if_false] at e
        exact absurd e.symm (ne k t hk (old k t hk e2) o2)
    · by_cases hk : k = i
      · simp only [hj, hk, if_true, if_false] at e
        exact absurd e (ne j s hj (old j s hj e1) o1)
      · simp only [hj, hk, if_false] at e
        exact inj j k s t (old j s hj e1) (old k t hk e2) o1 o2 e
  · by_cases h : j = i
    · subst h
      simp only [if_true]
      by_cases hl : j < env.length
      · rw [List.getElem?_set_self hl] at e; cases e
        exact ⟨List.getElem?_set_self (by rw [s.len]; exact hl), h0, nb, hf, o, ho, t⟩
      · rw [List.getElem?_eq_none (by simpa using hl)] at e; cases e
    · simp only [h, if_false]
      rw [List.getElem?_set_ne (Ne.symm h)] at e ⊢
      exact q j t e
end

/-! ### judgements of expressions -/
abbrev WE := En → (D → Prop) → Prop
abbrev WT := En → (Bool → Prop) → Prop
abbrev WA := En → (List D → Prop) → Prop
def RepVs (Z : Zc) (B : Addr) (F H : Hp) : List D → List V → Prop
  | [], xs => xs = []
  | d :: ds, xs => ∃ x r, xs = x :: r ∧ RepV Z B F H d x ∧ RepVs Z B F H ds r
def ResA (Z : Zc) (B : Addr) (F H : Hp) (ds : List D) (vs : List V) : Kd → Prop
  | .frz => Reps Z B F ds vs
  | _ => RepVs Z B F H ds vs
def tE (Z : Zc) (k : Kd) (w : WE) : TE := fun σ H Q => ∃ B H0 F env P, HdOk B F H ∧ SR Z B H0 F H σ env ∧ w env P ∧
  ∀ d F' H' v, P d → Fr B H F H' F' → Res Z B H F' H' d v k → Q v H'
def tT (Z : Zc) (w : WT) : TT := fun σ H Q => ∃ B H0 F env P, HdOk B F H ∧ SR Z B H0 F H σ env ∧ w env P ∧ ∀ d F' H', P d → Fr B H F H' F' → Q d H'
def tA (Z : Zc) (k : Kd) (w : WA) : TA := fun σ H Q => ∃ B H0 F env P, HdOk B F H ∧ SR Z B H0 F H σ env ∧ w env P ∧
  ∀ ds F' H' vs, P ds → Fr B H F H' F' → ResA Z B F' H' ds vs k → Q vs H'
section
variable {X : Cx} {e : Expr} {es : List Expr} {Z : Zc}
theorem _root_.L2.PE.imp {t t' : TE} (h : PE X e t) (i : ∀ σ H Q, t' σ H Q → t σ H Q) : PE X e t' := ⟨fun pins s σ H Q I q => h.run pins s σ H Q I (i σ H Q q)⟩
theorem _root_.L2.PT.imp {t t' : TT} (h : PT X e t) (i : ∀ σ H Q, t' σ H Q → t σ H Q) : PT X e t' := ⟨fun pins s σ H Q I q => h.run pins s σ H Q I (i σ H Q q)⟩
theorem _root_.L2.PA.imp {t t' : TA} (h : PA X es t) (i : ∀ σ H Q, t' σ H Q → t σ H Q) : PA X es t' := ⟨fun p pins s σ H Q I q => h.run p pins s σ H Q I (i σ H Q q)⟩
variable {w wa wb : WE}
/-- what is new is frozen -/
theorem pe_frz (h : PE X e (tE Z .new w)) : PE X e (tE Z .frz w) := h.imp fun σ H Q ⟨B, H0, F, env, P, hd, sr, hw, k⟩ =>
  ⟨B, H0, F, env, P, hd, sr, hw, fun d F' H' v p f r => by
    obtain ⟨F2, f2, r2⟩ := Res.freeze f hd r
    exact k d F2 H' v p f2 r2⟩
theorem pe_vw (h : PE X e (tE Z .frz w)) : PE X e (tE Z .view w) := h.imp fun σ H Q ⟨B, H0, F, env, P, hd, sr, hw, k⟩ =>
  ⟨B, H0, F, env, P, hd, sr, hw, fun d F' H' v p f r => k d F' H' v p f (.inl r)⟩
theorem pe_nv (h : PE X e (tE Z .new w)) : PE X e (tE Z .view w) := pe_vw (pe_frz h)

/-! ### names, constants -/
@[simp] def wVar (i : Nat) : WE := fun env P => ∃ d, env[i]? = some (.val d) ∧ P d
@[simp] def wOwn (i : Nat) : WE := fun env P => ∃ d, env[i]? = some (.own d) ∧ P d
@[simp] def wC (d : D) : WE := fun _ P => P d
variable {i : Nat} {x : Str} {pos : Pos}
theorem pd_var (hN : X.N[i]? = some x) (hv : Vis X.env.scope x) (hd : (x == ("__debug__" : Str)) = false := by decide) (hcd : (x == ("__classdict__" : Str)) = false := by decide) : PE X (.Name x pos) (tE Z .frz (wVar i)) :=
  (pe_var hN hv hd hcd).imp fun σ H Q ⟨B, H0, F, env, P, hdk, sr, ⟨d, e, p⟩, k⟩ => by
    obtain ⟨v, e1, r⟩ := sr.val e
    exact ⟨v, e1, k d F H v p (Fr.refl hdk) r⟩
theorem pd_own (hN : X.N[i]? = some x) (hv : Vis X.env.scope x) (hd : (x == ("__debug__" : Str)) = false := by decide) (hcd : (x == ("__classdict__" : Str)) = false := by decide) : PE X (.Name x pos) (tE Z .view (wOwn i)) :=
  (pe_var hN hv hd hcd).imp fun σ H Q ⟨B, H0, F, env, P, hdk, sr, ⟨d, e, p⟩, k⟩ => by
    obtain ⟨a, o, e1, e2, e3, e4, e5, t⟩ := sr.own e
    exact ⟨_, e1, k d F H _ p (Fr.refl hdk) (.inr ⟨a, o, rfl, e3, e5, t⟩)⟩
theorem tE_const {d : D} {v : V} (r : ∀ B F, Rep Z B F d v) {σ : L2.St} {H : Hp} {Q : VK} (h : tE Z .frz (wC d) σ H Q) : Q v H := by
  obtain ⟨B, H0, F, env, P, hdk, sr, p, k⟩ := h
  exact k d F H v p (Fr.refl hdk) (r B F)
theorem pd_int {i : Int} {j} : PE X (.Constant (.int i) j pos) (tE Z .frz (wC (.int i))) := pe_int.imp fun _ _ _ h => tE_const (d := D.int i) (v := V.int i) (fun _ _ => rfl) h
theorem pd_bl {b : Bool} {j} : PE X (.Constant (.bool b) j pos) (tE Z .frz (wC (.bl b))) := pe_bl.imp fun _ _ _ h => tE_const (d := D.bl b) (v := V.bl b) (fun _ _ => rfl) h
theorem pd_non {j} : PE X (.Constant .none j pos) (tE Z .frz (wC .non)) := pe_non.imp fun _ _ _ h => tE_const (d := D.non) (v := V.non) (fun _ _ => rfl) h
theorem pd_str {x : Str} {j} : PE X (.Constant (.str x) j pos) (tE Z .frz (wC (.str x))) := pe_str.imp fun _ _ _ h => tE_const (d := D.str x) (v := V.str x) (fun _ _ => rfl) h
/-- a module's constant -/
theorem pd_glob {d : D} {v : V} {u : Value} (r : ∀ B F, Rep Z B F d v) (hg : Gl X x) (hm : X.mg x = some u) (rv : RelV v u) (hd : (x == ("__debug__" : Str)) = false := by decide) : PE X (.Name x pos) (tE Z .frz (wC d)) :=
  (pe_glob hg hm rv hd).imp fun _ _ _ h => tE_const r h

theorem pd_globI {n : Int} (h : ∃ u, X.mg x = some u ∧ RelV (.int n) u) (hg : Gl X x) (hd : (x == ("__debug__" : Str)) = false := by decide) : PE X (.Name x pos) (tE Z .frz (wC (.int n))) := by
  obtain ⟨u, h1, h2⟩ := h
  exact pd_glob (v := .int n) (fun _ _ => rfl) hg h1 h2 hd
theorem pd_globS {n : Str} (h : ∃ u, X.mg x = some u ∧ RelV (.str n) u) (hg : Gl X x) (hd : (x == ("__debug__" : Str)) = false := by decide) : PE X (.Name x pos) (tE Z .frz (wC (.str n))) := by
  obtain ⟨u, h1, h2⟩ := h
  exact pd_glob (v := .str n) (fun _ _ => rfl) hg h1 h2 hd
theorem pd_globT {i j : Int} (h : ∃ a, X.mg x = some (.ref a) ∧ ∀ F, SqT Z.K F a [.int i, .int j]) (hg : Gl X x) (hd : (x == ("__debug__" : Str)) = false := by decide) : PE X (.Name x pos) (tE Z .frz (wC (.tup [.int i, .int j]))) := by
  obtain ⟨a, h1, h2⟩ := h
  exact pd_glob (v := .ref a) (fun _ F => ⟨a, _, rfl, h2 F, Reps.cons rfl (Reps.cons rfl Reps.nil)⟩) hg h1 rfl hd

/-! ### operators by values -/
abbrev W2 := D → D → (D → Prop) → Prop
def OpD (Z : Zc) (k : Kd) (r : R2) (w : W2) : Prop := ∀ (B : Addr) (F H : Hp) (d1 d2 : D) (v1 v2 : V) (P : D → Prop) (Q : VK), HdOk B F H → RepV Z B F H d1 v1 → RepV Z B F H d2 v2 → w d1 d2 P →
  (∀ d F' H' v, P d → Fr B H F H' F' → Res Z B H F' H' d v k → Q v H') → r v1 v2 H Q
theorem Res.back {B : Addr} {H F H1 F1 F' H' : Hp} {d : D} {v : V} {k : Kd} (hd : HdOk B F H) (f : Fr B H F H1 F1) (r : Res Z B H1 F' H' d v k) : Res Z B H F' H' d v k := by
  cases k with
  | new =>
    obtain ⟨a, o, e, h, q⟩ := r
    refine ⟨a, o, e, ?_, q⟩
    cases z : H a with
    | none => rfl
    | some u => exact absurd h (f.some hd (by rw [z]; simp))
  | frz => exact r
  | view => exact r
@[simp] def wOp (w : W2) (wa wb : WE) : WE := fun env P => wa env fun d1 => wb env fun d2 => w d1 d2 P
theorem tOp_D {k : Kd} {r : R2} {w : W2} (hr : OpD Z k r w) {σ : L2.St} {H : Hp} {Q : VK} (h : tE Z k (wOp w wa wb) σ H Q) : tOp r (tE Z .view wa) (tE Z .view wb) σ H Q := by
  obtain ⟨B, H0, F, env, P, hd, sr, hw, q⟩ := h
  refine ⟨B, H0, F, env, _, hd, sr, hw, fun d1 F1 H1 v1 p1 f1 r1 => ?_⟩
  refine ⟨B, H0, F1, env, _, f1.hd, sr.step hd f1, p1, fun d2 F2 H2 v2 p2 f2 r2 => ?_⟩
  exact hr B F2 H2 d1 d2 v1 v2 P Q f2.hd (RepV.step f1.hd f2 r1) r2 p2 fun d F' H' v p f r => q d F' H' v p (Fr.trans hd (Fr.trans hd f1 f2) f) (Res.back hd (Fr.trans hd f1 f2) r)
variable {a b c : Expr} {k : Kd}
theorem pd_op {op : Operator} {r : R2} {w : W2} (ho : OpR X (binaryOp op) r) (hr : OpD Z k r w) (ha : PE X a (tE Z .view wa)) (hb : PE X b (tE Z .view wb)) : PE X (.BinOp a op b pos) (tE Z k (wOp w wa wb)) :=
  (pe_op ho ha hb).imp fun _ _ _ h => tOp_D hr h
theorem pd_cmp {op : CmpOp} {r : R2} {w : W2} (ho : OpR X (compareOp op) r) (hr : OpD Z .frz r w) (ha : PE X a (tE Z .view wa)) (hb : PE X b (tE Z .view wb)) (hm : behindInMarks op b = false := by first | exact nobehind _ (by decide) (by decide) | rfl) :
    PE X (.Compare a [op] [b] pos) (tE Z .frz (wOp w wa wb)) := (pe_cmpR ho ha hb hm).imp fun _ _ _ h => tOp_D hr h
/-- a value as a test -/
@[simp] def wTest (w : WE) : WT := fun env P => w env fun d => ∃ b, d = .bl b ∧ P b
theorem tT_of {t : TE} (i : ∀ σ H Q, tE Z .frz w σ H Q → t σ H Q) {σ : L2.St} {H : Hp} {Q : Bool → Hp → Prop} (h : tT Z (wTest w) σ H Q) : t σ H fun x H' => ∃ k, x = V.bl k ∧ Q k H' := by
  obtain ⟨B, H0, F, env, P, hd, sr, hw, q⟩ := h
  refine i σ H _ ⟨B, H0, F, env, _, hd, sr, hw, fun d F' H' v p f r => ?_⟩
  obtain ⟨b, e, p⟩ := p
  subst e
  exact ⟨b, r, q b F' H' p f⟩
theorem pt_cmpD {op : CmpOp} {r : R2} {w : W2} (ho : OpR X (compareOp op) r) (hr : OpD Z .frz r w) (ha : PE X a (tE Z .view wa)) (hb : PE X b (tE Z .view wb)) (hm : behindInMarks op b = false := by first | exact nobehind _ (by decide) (by decide) | rfl) :
    PT X (.Compare a [op] [b] pos) (tT Z (wTest (wOp w wa wb))) := (pt_cmpR ho ha hb hm).imp fun _ _ _ h => tT_of (fun _ _ _ => tOp_D hr) h
theorem pt_valD (h : PE X e (tE Z .frz w)) (he : ∀ whole, isTrue e X.env whole = (do let v ← whole; standAt e.pos; holding [v] (truthy v)) := by intro _; rfl) : PT X e (tT Z (wTest w)) :=
  (pt_val h he).imp fun _ _ _ h => tT_of (fun _ _ _ z => z) h
/-- a op1 b op2 c -/
@[simp] def wChain (w w' : W2) (wa wb wc : WE) : WE := fun env P => wa env fun d1 => wb env fun d2 => w d1 d2 fun z => ∃ k, z = .bl k ∧ (if k = true then wc env fun d3 => w' d2 d3 P else P (.bl false))
variable {wc : WE}
theorem tChain_D {r r' : R2} {w w' : W2} (hr : OpD Z .frz r w) (hr' : OpD Z .frz r' w') {σ : L2.St} {H : Hp} {Q : VK} (h : tE Z .frz (wChain w w' wa wb wc) σ H Q) : tChain r r' (tE Z .view wa) (tE Z .view wb) (tE Z .view wc) σ H Q := by
  obtain ⟨B, H0, F, env, P, hd, sr, hw, q⟩ := h
  refine ⟨B, H0, F, env, _, hd, sr, hw, fun d1 F1 H1 v1 p1 f1 r1 => ?_⟩
  refine ⟨B, H0, F1, env, _, f1.hd, sr.step hd f1, p1, fun d2 F2 H2 v2 p2 f2 r2 => ?_⟩
  have f12 := Fr.trans hd f1 f2
  refine hr B F2 H2 d1 d2 v1 v2 _ _ f2.hd (RepV.step f1.hd f2 r1) r2 p2 fun d F3 H3 v p f3 r3 => ?_
  obtain ⟨k, e, p⟩ := p
  subst e
  refine ⟨k, r3, ?_⟩
  have f13 := Fr.trans hd f12 f3
  cases k with
  | false =>
    rw [if_neg (by decide)] at p ⊢
    exact q _ F3 H3 _ p f13 rfl
  | true =>
    rw [if_pos rfl] at p ⊢
    refine ⟨B, H0, F3, env, _, f3.hd, sr.step hd f13, p, fun d3 F4 H4 v4 p4 f4 r4 => ?_⟩
    have f14 := Fr.trans hd f13 f4
    exact hr' B F4 H4 d2 d3 v2 v4 P Q f4.hd (RepV.step f3.hd f4 (RepV.step f2.hd f3 r2)) r4 p4 fun d F' H' v p f r => q d F' H' v p (Fr.trans hd f14 f) r
theorem pd_chain {op op' : CmpOp} {r r' : R2} {w w' : W2} (ho : OpR X (compareOp op) r) (ho' : OpR X (compareOp op') r') (hr : OpD Z .frz r w) (hr' : OpD Z .frz r' w') (ha : PE X a (tE Z .view wa)) (hb : PE X b (tE Z .view wb)) (hc : PE X c (tE Z .view wc))
    (hm : lastMarks [op, op'] [b, c] = false := by with_unfolding_all rfl) : PE X (.Compare a [op, op'] [b, c] pos) (tE Z .frz (wChain w w' wa wb wc)) := (pe_chain ho ho' ha hb hc hm).imp fun _ _ _ h => tChain_D hr hr' h
theorem pt_chainD {op op' : CmpOp} {r r' : R2} {w w' : W2} (ho : OpR X (compareOp op) r) (ho' : OpR X (compareOp op') r') (hr : OpD Z .frz r w) (hr' : OpD Z .frz r' w') (ha : PE X a (tE Z .view wa)) (hb : PE X b (tE Z .view wb)) (hc : PE X c (tE Z .view wc))
    (hm : lastMarks [op, op'] [b, c] = false := by with_unfolding_all rfl) : PT X (.Compare a [op, op'] [b, c] pos) (tT Z (wTest (wChain w w' wa wb wc))) := (pt_chain ho ho' ha hb hc hm).imp fun _ _ _ h => tT_of (fun _ _ _ => tChain_D hr hr') h
/-- one-place -/
abbrev W1 := D → (D → Prop) → Prop
def UnD (Z : Zc) (k : Kd) (r : V → Hp → VK → Prop) (w : W1) : Prop := ∀ (B : Addr) (F H : Hp) (d1 : D) (v1 : V) (P : D → Prop) (Q : VK), HdOk B F H → RepV Z B F H d1 v1 → w d1 P →
  (∀ d F' H' v, P d → Fr B H F H' F' → Res Z B H F' H' d v k → Q v H') → r v1 H Q
@[simp] def wUn (w : W1) (wa : WE) : WE := fun env P => wa env fun d1 => w d1 P
theorem tUn_D {r : V → Hp → VK → Prop} {w : W1} (hr : UnD Z k r w) {σ : L2.St} {H : Hp} {Q : VK} (h : tE Z k (wUn w wa) σ H Q) : tE Z .view wa σ H fun x H1 => r x H1 Q := by
  obtain ⟨B, H0, F, env, P, hd, sr, hw, q⟩ := h
  refine ⟨B, H0, F, env, _, hd, sr, hw, fun d1 F1 H1 v1 p1 f1 r1 => ?_⟩
  exact hr B F1 H1 d1 v1 P Q f1.hd r1 p1 fun d F' H' v p f r => q d F' H' v p (Fr.trans hd f1 f) (Res.back hd f1 r)
theorem pd_un {op : UnaryOp} {r : V → Hp → VK → Prop} {w : W1} (ho : UnR X (unaryOp op) r) (hr : UnD Z k r w) (ha : PE X a (tE Z .view wa)) : PE X (.UnaryOp op a pos) (tE Z k (wUn w wa)) :=
  (pe_un ho ha).imp fun _ _ _ h => tUn_D hr h

/-! ### and, or, not, if else -/
variable {wt wu : WT} {rest : List Expr}
@[simp] def wNot (wt : WT) : WT := fun env P => wt env fun b => P (!b)
@[simp] def wAnd (wt wu : WT) : WT := fun env P => wt env fun b => if b = true then wu env P else P false
@[simp] def wOr (wt wu : WT) : WT := fun env P => wt env fun b => if b = true then P true else wu env P
theorem pt_notD (h : PT X a (tT Z wt)) : PT X (.UnaryOp .Not a pos) (tT Z (wNot wt)) := (pt_not h).imp fun σ H Q ⟨B, H0, F, env, P, hd, sr, hw, q⟩ =>
  ⟨B, H0, F, env, _, hd, sr, hw, fun b F' H' p f => q _ F' H' p f⟩
theorem _root_.L2.PW.imp {t t' : TT} (h : PW X e t) (i : ∀ σ H Q, t' σ H Q → t σ H Q) : PW X e t' := ⟨fun wh pins s σ H Q I q => h.run wh pins s σ H Q I (i σ H Q q)⟩
theorem pw_and1D (h : PT X a (tT Z wt)) : PW X (.BoolOp .And [a] pos) (tT Z wt) := pw_and1 h
theorem pw_or1D (h : PT X a (tT Z wt)) : PW X (.BoolOp .Or [a] pos) (tT Z wt) := pw_or1 h
theorem pw_andD (ha : PT X a (tT Z wt)) (hb : PW X (.BoolOp .And (b :: rest) pos) (tT Z wu)) : PW X (.BoolOp .And (a :: b :: rest) pos) (tT Z (wAnd wt wu)) := (pw_and ha hb).imp fun σ H Q ⟨B, H0, F, env, P, hd, sr, hw, q⟩ => by
  refine ⟨B, H0, F, env, _, hd, sr, hw, fun b F' H' p f => ?_⟩
  cases b with
  | true =>
    rw [if_pos rfl] at p ⊢
    exact ⟨B, H0, F', env, P, f.hd, sr.step hd f, p, fun d F2 H2 p2 f2 => q d F2 H2 p2 (Fr.trans hd f f2)⟩
  | false =>
    rw [if_neg (by decide)] at p ⊢
    exact q _ F' H' p f
theorem pw_orD (ha : PT X a (tT Z wt)) (hb : PW X (.BoolOp .Or (b :: rest) pos) (tT Z wu)) : PW X (.BoolOp .Or (a :: b :: rest) pos) (tT Z (wOr wt wu)) := (pw_or ha hb).imp fun σ H Q ⟨B, H0, F, env, P, hd, sr, hw, q⟩ => by
  refine ⟨B, H0, F, env, _, hd, sr, hw, fun b F' H' p f => ?_⟩
  cases b with
  | false =>
    rw [if_neg (by decide)] at p ⊢
    exact ⟨B, H0, F', env, P, f.hd, sr.step hd f, p, fun d F2 H2 p2 f2 => q d F2 H2 p2 (Fr.trans hd f f2)⟩
  | true =>
    rw [if_pos rfl] at p ⊢
    exact q _ F' H' p f
@[simp] def wIfE (wt : WT) (wa wb : WE) : WE := fun env P => wt env fun b => if b = true then wa env P else wb env P
theorem pd_ifE (hc : PT X c (tT Z wt)) (ha : PE X a (tE Z .frz wa)) (hb : PE X b (tE Z .frz wb)) : PE X (.IfExp c a b pos) (tE Z .frz (wIfE wt wa wb)) := (pe_ifExp hc ha hb).imp fun σ H Q ⟨B, H0, F, env, P, hd, sr, hw, q⟩ => by
  refine ⟨B, H0, F, env, _, hd, sr, hw, fun b F' H' p f => ?_⟩
  cases b with
  | true =>
    rw [if_pos rfl] at p ⊢
    exact ⟨B, H0, F', env, P, f.hd, sr.step hd f, p, fun d F2 H2 v p2 f2 r => q d F2 H2 v p2 (Fr.trans hd f f2) r⟩
  | false =>
    rw [if_neg (by decide)] at p ⊢
    exact ⟨B, H0, F', env, P, f.hd, sr.step hd f, p, fun d F2 H2 v p2 f2 r => q d F2 H2 v p2 (Fr.trans hd f f2) r⟩
/-- and, or of bools, as values -/
@[simp] def wB (w : WE) (g : Bool → (D → Prop) → Prop) : WE := fun env P => w env fun d => ∃ b, d = .bl b ∧ g b P
@[simp] def wAndV (wa wb : WE) : WE := fun env P => wa env fun d => ∃ b, d = .bl b ∧ if b = true then wb env P else P (.bl false)
@[simp] def wOrV (wa wb : WE) : WE := fun env P => wa env fun d => ∃ b, d = .bl b ∧ if b = true then P (.bl true) else wb env P
@[simp] def wNotV (wa : WE) : WE := fun env P => wa env fun d => ∃ b, d = .bl b ∧ P (.bl (!b))
theorem pd_one {op} (h : PE X a (tE Z k w)) : PE X (.BoolOp op [a] pos) (tE Z k w) := pe_one h
theorem pd_and (ha : PE X a (tE Z .frz wa)) (hb : PE X (.BoolOp .And (b :: rest) pos) (tE Z .frz wb)) : PE X (.BoolOp .And (a :: b :: rest) pos) (tE Z .frz (wAndV wa wb)) := (pe_and ha hb).imp fun σ H Q ⟨B, H0, F, env, P, hd, sr, hw, q⟩ => by
  refine ⟨B, H0, F, env, _, hd, sr, hw, fun d F' H' v p f r => ?_⟩
  obtain ⟨b, e, p⟩ := p
  subst e
  refine ⟨b, r, ?_⟩
  cases b with
  | true =>
    rw [if_pos rfl] at p ⊢
    exact ⟨B, H0, F', env, P, f.hd, sr.step hd f, p, fun d F2 H2 v p2 f2 r => q d F2 H2 v p2 (Fr.trans hd f f2) r⟩
  | false =>
    rw [if_neg (by decide)] at p ⊢
    exact q _ F' H' _ p f rfl
theorem pd_or (ha : PE X a (tE Z .frz wa)) (hb : PE X (.BoolOp .Or (b :: rest) pos) (tE Z .frz wb)) : PE X (.BoolOp .Or (a :: b :: rest) pos) (tE Z .frz (wOrV wa wb)) := (pe_or ha hb).imp fun σ H Q ⟨B, H0, F, env, P, hd, sr, hw, q⟩ => by
  refine ⟨B, H0, F, env, _, hd, sr, hw, fun d F' H' v p f r => ?_⟩
  obtain ⟨b, e, p⟩ := p
  subst e
  refine ⟨b, r, ?_⟩
  cases b with
  | false =>
    rw [if_neg (by decide)] at p ⊢
    exact ⟨B, H0, F', env, P, f.hd, sr.step hd f, p, fun d F2 H2 v p2 f2 r => q d F2 H2 v p2 (Fr.trans hd f f2) r⟩
  | true =>
    rw [if_pos rfl] at p ⊢
    exact q _ F' H' _ p f rfl
theorem pd_not (ha : PE X a (tE Z .frz wa)) : PE X (.UnaryOp .Not a pos) (tE Z .frz (wNotV wa)) := (pe_not ha).imp fun σ H Q ⟨B, H0, F, env, P, hd, sr, hw, q⟩ => by
  refine ⟨B, H0, F, env, _, hd, sr, hw, fun d F' H' v p f r => ?_⟩
  obtain ⟨b, e, p⟩ := p
  subst e
  exact ⟨b, r, q _ F' H' _ p f rfl⟩
/-- is None -/
@[simp] def D.isN : D → Bool
  | .non => true
  | _ => false
@[simp] def wIsN (neg : Bool) (wa : WE) : WE := fun env P => wa env fun d => P (.bl (if neg then !d.isN else d.isN))
theorem isN_iff {B : Addr} {F H : Hp} {d : D} {v : V} (r : RepV Z B F H d v) : decide (v = V.non) = d.isN := by
  cases d with
  | non => rw [r.non]; rfl
  | bl b => rw [r.bl]; rfl
  | int b => rw [r.int]; rfl
  | str b => rw [r.str]; rfl
  | tup ds => obtain ⟨a, xs, e, _⟩ := r.tup; rw [e]; rfl
  | lst ds => 
    rcases r with ⟨a, xs, e, _⟩ | ⟨a, o, e, _⟩ <;> (rw [e]; rfl)
  | dic ds => 
    rcases r with ⟨a, e, _⟩ | ⟨a, o, e, _⟩ <;> (rw [e]; rfl)
  | dicL ds => obtain ⟨a, o, e, _⟩ := r.dicL; rw [e]; rfl
  | row ts bs => obtain ⟨a, e, _⟩ := r.row; rw [e]; rfl
  | bag => rw [r.bag]; rfl
theorem pd_isN {j pos'} (ha : PE X a (tE Z .view wa)) : PE X (.Compare a [.Is] [.Constant .none j pos'] pos) (tE Z .frz (wIsN false wa)) := (pe_cmp (pc_isN ha)).imp fun σ H Q ⟨B, H0, F, env, P, hd, sr, hw, q⟩ =>
  ⟨B, H0, F, env, _, hd, sr, hw, fun d F' H' v p f r => by first | (show Q (V.bl (decide (v = V.non))) H'; rw [isN_iff r]; exact q _ F' H' _ p f rfl) | (show Q (V.bl (!decide (v = V.non))) H'; rw [isN_iff r]; exact q _ F' H' _ p f rfl)⟩
theorem pd_notN {j pos'} (ha : PE X a (tE Z .view wa)) : PE X (.Compare a [.IsNot] [.Constant .none j pos'] pos) (tE Z .frz (wIsN true wa)) := (pe_cmp (pc_notN ha)).imp fun σ H Q ⟨B, H0, F, env, P, hd, sr, hw, q⟩ =>
  ⟨B, H0, F, env, _, hd, sr, hw, fun d F' H' v p f r => by first | (show Q (V.bl (decide (v = V.non))) H'; rw [isN_iff r]; exact q _ F' H' _ p f rfl) | (show Q (V.bl (!decide (v = V.non))) H'; rw [isN_iff r]; exact q _ F' H' _ p f rfl)⟩
theorem pt_isN {j pos'} (ha : PE X a (tE Z .view wa)) : PT X (.Compare a [.Is] [.Constant .none j pos'] pos) (tT Z (wTest (wIsN false wa))) := (pt_cmp (pc_isN ha)).imp fun σ H Q h =>
  tT_of (t := tIsN (tE Z .view wa)) (fun σ H Q ⟨B, H0, F, env, P, hd, sr, hw, q⟩ => ⟨B, H0, F, env, _, hd, sr, hw, fun d F' H' v p f r => by first | (show Q (V.bl (decide (v = V.non))) H'; rw [isN_iff r]; exact q _ F' H' _ p f rfl) | (show Q (V.bl (!decide (v = V.non))) H'; rw [isN_iff r]; exact q _ F' H' _ p f rfl)⟩) h
theorem pt_notN {j pos'} (ha : PE X a (tE Z .view wa)) : PT X (.Compare a [.IsNot] [.Constant .none j pos'] pos) (tT Z (wTest (wIsN true wa))) := (pt_cmp (pc_notN ha)).imp fun σ H Q h =>
  tT_of (t := tNotN (tE Z .view wa)) (fun σ H Q ⟨B, H0, F, env, P, hd, sr, hw, q⟩ => ⟨B, H0, F, env, _, hd, sr, hw, fun d F' H' v p f r => by first | (show Q (V.bl (decide (v = V.non))) H'; rw [isN_iff r]; exact q _ F' H' _ p f rfl) | (show Q (V.bl (!decide (v = V.non))) H'; rw [isN_iff r]; exact q _ F' H' _ p f rfl)⟩) h

/-! ### arguments, displays, calls -/
@[simp] def wNil : WA := fun _ P => P []
@[simp] def wCons (w : WE) (ws : WA) : WA := fun env P => w env fun d => ws env fun ds => P (d :: ds)
variable {ws : WA}
theorem pd_nil : PA X [] (tA Z k wNil) := pa_nil.imp fun σ H Q ⟨B, H0, F, env, P, hd, sr, hw, q⟩ => q [] F H [] hw (Fr.refl hd) (by cases k <;> exact rfl)
theorem RepVs.step {B : Addr} {F H F' H' : Hp} (h : HdOk B F H) (f : Fr B H F H' F') : ∀ {ds : List D} {vs : List V}, RepVs Z B F H ds vs → RepVs Z B F' H' ds vs
  | [], _, r => r
  | _ :: _, _, ⟨x, t, e, r1, r2⟩ => ⟨x, t, e, RepV.step h f r1, RepVs.step h f r2⟩
theorem pd_cons (ha : PE X e (tE Z .frz w)) (hr : PA X es (tA Z .frz ws)) (hs : starEach (e :: es) X.env = (false, eval e X.env) :: starEach es X.env := by rfl) : PA X (e :: es) (tA Z .frz (wCons w ws)) :=
  (pa_cons ha hr hs).imp fun σ H Q ⟨B, H0, F, env, P, hd, sr, hw, q⟩ => by
    refine ⟨B, H0, F, env, _, hd, sr, hw, fun d1 F1 H1 v1 p1 f1 r1 => ?_⟩
    refine ⟨B, H0, F1, env, _, f1.hd, sr.step hd f1, p1, fun d2 F2 H2 v2 p2 f2 r2 => ?_⟩
    exact q _ F2 H2 _ p2 (Fr.trans hd f1 f2) (Reps.cons (Rep.mono (f2.leF f1.hd) r1) r2)
theorem pd_consV (ha : PE X e (tE Z .view w)) (hr : PA X es (tA Z .view ws)) (hs : starEach (e :: es) X.env = (false, eval e X.env) :: starEach es X.env := by rfl) : PA X (e :: es) (tA Z .view (wCons w ws)) :=
  (pa_cons ha hr hs).imp fun σ H Q ⟨B, H0, F, env, P, hd, sr, hw, q⟩ => by
    refine ⟨B, H0, F, env, _, hd, sr, hw, fun d1 F1 H1 v1 p1 f1 r1 => ?_⟩
    refine ⟨B, H0, F1, env, _, f1.hd, sr.step hd f1, p1, fun d2 F2 H2 v2 p2 f2 r2 => ?_⟩
    exact q _ F2 H2 _ p2 (Fr.trans hd f1 f2) ⟨v1, v2, rfl, RepV.step f1.hd f2 r1, r2⟩
/-- the items of a list, of a tuple, by a star -/
@[simp] def D.items : D → Option (List D)
  | .lst ds => some ds
  | .tup ds => some ds
  | _ => none
@[simp] def wStar (w : WE) (ws : WA) : WA := fun env P => w env fun d => ∃ xs, d.items = some xs ∧ ws env fun ds => P (xs ++ ds)
theorem pd_star {p : Pos} (hz : Z.K = X.K) (ha : PE X e (tE Z .frz w)) (hr : PA X es (tA Z .frz ws)) (hs : starEach (.Starred e p :: es) X.env = (true, eval e X.env) :: starEach es X.env := by rfl) : PA X (.Starred e p :: es) (tA Z .frz (wStar w ws)) :=
  (StX.pa_star ha hr hs).imp fun σ H Q ⟨B, H0, F, env, P, hd, sr, hw, q⟩ => by
    refine ⟨B, H0, F, env, _, hd, sr, hw, fun d1 F1 H1 v1 p1 f1 r1 => ?_⟩
    obtain ⟨xs, e1, p1⟩ := p1
    have go : ∀ ys, Reps Z B F1 xs ys → tA Z .frz ws σ H1 fun vs H2 => Q (ys ++ vs) H2 := fun ys r =>
      ⟨B, H0, F1, env, _, f1.hd, sr.step hd f1, p1, fun d2 F2 H2 v2 p2 f2 r2 => q _ F2 H2 _ p2 (Fr.trans hd f1 f2) (Reps.append (Reps.mono (f2.leF f1.hd) r) r2)⟩
    cases d1 with
    | lst ds =>
      cases e1
      obtain ⟨a, ys, e2, hF, r⟩ := r1
      exact ⟨a, ys, e2, .inr (SqL.of (f1.hd.le _ _ hF)), go ys r⟩
    | tup ds =>
      cases e1
      obtain ⟨a, ys, e2, hF, r⟩ := r1
      exact ⟨a, ys, e2, .inl (by rw [← hz]; exact f1.hd.le.sqT hF), go ys r⟩
    | _ => cases e1
@[simp] def wTup (ws : WA) : WE := fun env P => ws env fun ds => ds.length ≤ sizeLine ∧ P (.tup ds)
@[simp] def wLst (ws : WA) : WE := fun env P => ws env fun ds => ds.length ≤ sizeLine ∧ P (.lst ds)
theorem pd_tup {x1} (h : PA X es (tA Z .frz ws)) : PE X (.Tuple es x1 pos) (tE Z .frz (wTup ws)) := (pe_tup h).imp fun σ H Q ⟨B, H0, F, env, P, hd, sr, hw, q⟩ => by
  refine ⟨B, H0, F, env, _, hd, sr, hw, fun ds F1 H1 vs p1 f1 r1 => ?_⟩
  have r1 : Reps Z B F1 ds vs := r1
  refine ⟨by rw [r1.length]; exact p1.1, fun p hp => ?_⟩
  exact q _ (upd F1 p (.tup vs)) _ _ p1.2 (Fr.trans hd f1 (Fr.laid f1.hd hp)) ⟨p, vs, rfl, SqT.of upd_same, r1.mono (le_upd (f1.hd.noneF hp))⟩
theorem pd_lst (h : PA X es (tA Z .frz ws)) : PE X (.List es pos) (tE Z .new (wLst ws)) := (pe_lst h).imp fun σ H Q ⟨B, H0, F, env, P, hd, sr, hw, q⟩ => by
  refine ⟨B, H0, F, env, _, hd, sr, hw, fun ds F1 H1 vs p1 f1 r1 => ?_⟩
  have r1 : Reps Z B F1 ds vs := r1
  refine ⟨by rw [r1.length]; exact p1.1, fun p hp => ?_⟩
  exact q _ F1 _ _ p1.2 (Fr.trans hd f1 (Fr.laidN f1.hd hp)) (Res.back hd f1 ⟨p, _, rfl, hp, f1.hd.noneF hp, upd_same, vs, rfl, r1⟩)
/-- calls of values -/
abbrev WL := List D → (D → Prop) → Prop
def CallD (Z : Zc) (k : Kd) (r : List V → Hp → VK → Prop) (w : WL) : Prop := ∀ (B : Addr) (F H : Hp) (ds : List D) (vs : List V) (P : D → Prop) (Q : VK), HdOk B F H → RepVs Z B F H ds vs → w ds P →
  (∀ d F' H' v, P d → Fr B H F H' F' → Res Z B H F' H' d v k → Q v H') → r vs H Q
@[simp] def wCall (w : WL) (ws : WA) : WE := fun env P => ws env fun ds => w ds P
theorem tCB_D {r : List V → Hp → VK → Prop} {w : WL} (hr : CallD Z k r w) {σ : L2.St} {H : Hp} {Q : VK} (h : tE Z k (wCall w ws) σ H Q) : tCB r (tA Z .view ws) σ H Q := by
  obtain ⟨B, H0, F, env, P, hd, sr, hw, q⟩ := h
  refine ⟨B, H0, F, env, _, hd, sr, hw, fun ds F1 H1 vs p1 f1 r1 => ?_⟩
  exact hr B F1 H1 ds vs P Q f1.hd r1 p1 fun d F' H' v p f r => q d F' H' v p (Fr.trans hd f1 f) (Res.back hd f1 r)
variable {p : Pos} {id T : String} {r : List V → Hp → VK → Prop} {wl : WL}
theorem pd_callB (hr : CallD Z k r wl) (hc : CallR X (.builtin id) r) (hg : Gl X x) (hm : X.mg x = none) (hv : bootBuiltins x = some (.builtin id)) (ha : PA X (e :: es) (tA Z .view ws)) (hn : x ≠ "__name__" := by decide) (hdb : (x == ("__debug__" : Str)) = false := by decide)
    (he : starEach (e :: es) X.env = (false, eval e X.env) :: starEach es X.env := by rfl) (hpl : (backTo pos (starEach es X.env)).any (·.1) = false := by rfl) : PE X (.Call (.Name x p) (e :: es) [] pos) (tE Z k (wCall wl ws)) :=
  (pe_callB hc hg hm hv ha hn hdb he hpl).imp fun _ _ _ h => tCB_D hr h
theorem pd_callTy (hr : CallD Z k r wl) (hc : CallR X (.type T) r) (hg : Gl X x) (hm : X.mg x = none) (hv : bootBuiltins x = some (.type T)) (ha : PA X (e :: es) (tA Z .view ws)) (hn : x ≠ "__name__" := by decide) (hdb : (x == ("__debug__" : Str)) = false := by decide)
    (he : starEach (e :: es) X.env = (false, eval e X.env) :: starEach es X.env := by rfl) (hpl : (backTo pos (starEach es X.env)).any (·.1) = false := by rfl) : PE X (.Call (.Name x p) (e :: es) [] pos) (tE Z k (wCall wl ws)) :=
  (pe_callTy hc hg hm hv ha hn hdb he hpl).imp fun _ _ _ h => tCB_D hr h

/-! ### the program's own defs -/
/-- the promise of a def by plain values -/
def spD (Z : Zc) (w : WL) : Sp := fun vs H Q _ => ∃ B F ds P, HdOk B F H ∧ Reps Z B F ds vs ∧ w ds P ∧ ∀ d F' H' v, P d → Fr B H F H' F' → Rep Z B F' d v → Q v H'
/-- a def that keeps its promise w, by its name, at most at level k -/
def Cal (P : Program) (w : World) (K : PySem.W.Frag) (mg : Str → Option Value) (base : Heap) (Z : Zc) (k : Nat) (x : Str) (wl : WL) : Prop :=
  ∃ f : Addr, mg x = some (.ref f) ∧ PySem.W.keepIn K (.ref f) = true ∧ FnR P w K mg base CX0 k f (spD Z wl)
theorem Cal.imp {P : Program} {w : World} {K : PySem.W.Frag} {mg : Str → Option Value} {base : Heap} {Z : Zc} {k : Nat} {x : Str} {wl wl' : WL} (c : Cal P w K mg base Z k x wl) (h : ∀ ds P, wl' ds P → wl ds P) : Cal P w K mg base Z k x wl' := by
  obtain ⟨f, h1, h2, h3⟩ := c
  exact ⟨f, h1, h2, h3.imp fun vs H Q E ⟨B, F, ds, P, a, b, c, d⟩ => ⟨B, F, ds, P, a, b, h _ _ c, d⟩⟩
theorem pd_call {k kk : Nat} (c : Cal X.prog X.w X.K X.mg X.base Z k x wl) (hr : Room kk X.A) (hk : k ≤ kk) (hg : Gl X x)
    (ha : PA X (e :: es) (tA Z .frz ws)) (hdb : (x == ("__debug__" : Str)) = false := by decide)
    (he : starEach (e :: es) X.env = (false, eval e X.env) :: starEach es X.env := by rfl) (hpl : (backTo pos (starEach es X.env)).any (·.1) = false := by rfl) : PE X (.Call (.Name x p) (e :: es) [] pos) (tE Z .frz (wCall wl ws)) := by
  obtain ⟨f, hm, hkp, Fn⟩ := c
  refine ⟨fun pins s σ H Q I ⟨B, H0, F, env, P, hd, sr, hw, q⟩ => wpAny_Call_Name_kw (ld_glob I hg hm ?_ hdb)⟩
  refine PySem.W.callWith_K I.ok.mod.kin hkp ?_ he hpl
  refine thn (ha.run pos pins s σ H (fun vs H1 => spD Z wl vs H1 Q fun _ _ _ => False) I ⟨B, H0, F, env, _, hd, sr, hw, fun ds F1 H1 vs p1 f1 r1 => ?_⟩) fun us s1 ⟨vs, H1, I1, r, z⟩ => ⟨I1.kIn, ?_⟩
  · exact ⟨B, F1, ds, P, f1.hd, r1, p1, fun d F' H' v p f r => q d F' H' v p (Fr.trans hd f1 f) r⟩
  · exact wpAny_call (run_fnR Fn (hr.mono hk) pass0 I1 r z)
end
end DL

namespace DL
open PySem PySem.Spec PyProof.Rows L2

structure EndsD where
  nx : En → Prop
  rt : D → Prop
  bk : En → Prop := fun _ => False
  ct : En → Prop := fun _ => False
abbrev WS := EndsD → En → Prop
/-- where one stands: (H0, F0) the def's entry, Fl what stays frozen -/
structure Sit (Z : Zc) (B : Addr) (H0 F0 Fl F H : Hp) (σ : L2.St) (env : En) : Prop where
  h0 : HdOk B F0 H0
  fr : Fr B H0 F0 H F
  fl : Le Fl F
  sr : SR Z B (fun a => H0 a = none) F H σ env
structure Wt (Z : Zc) (B : Addr) (H0 F0 Fl : Hp) (E : EndsD) (T : Ends) : Prop where
  nx : ∀ env σ F H, E.nx env → Sit Z B H0 F0 Fl F H σ env → T.nx σ H
  rt : ∀ d v F H, E.rt d → Fr B H0 F0 H F → Rep Z B F d v → T.rt v H
  bk : ∀ env σ F H, E.bk env → Sit Z B H0 F0 Fl F H σ env → T.bk σ H
  ct : ∀ env σ F H, E.ct env → Sit Z B H0 F0 Fl F H σ env → T.ct σ H
def tS (Z : Zc) (w : WS) : TS := fun T σ H => ∃ B H0 F0 Fl F env E, Sit Z B H0 F0 Fl F H σ env ∧ w E env ∧ Wt Z B H0 F0 Fl E T
theorem Sit.step {Z : Zc} {B : Addr} {H0 F0 Fl F H F' H' : Hp} {σ : L2.St} {env : En} (s : Sit Z B H0 F0 Fl F H σ env) (f : Fr B H F H' F') : Sit Z B H0 F0 Fl F' H' σ env :=
  ⟨s.h0, Fr.trans s.h0 s.fr f, s.fl.trans (f.leF s.fr.hd), s.sr.step s.fr.hd f⟩
theorem Sit.set {Z : Zc} {B : Addr} {H0 F0 Fl F H : Hp} {σ : L2.St} {env : En} (s : Sit Z B H0 F0 Fl F H σ env) {d : D} {v : V} (i : Nat) (r : Rep Z B F d v) : Sit Z B H0 F0 Fl F H (σ.set i (some v)) (env.set i (.val d)) :=
  ⟨s.h0, s.fr, s.fl, s.sr.set i r⟩
theorem Sit.back {Z : Zc} {B : Addr} {H0 F0 Fl F H : Hp} {σ : L2.St} {env : En} (s : Sit Z B H0 F0 Fl F H σ env) {a : Addr} (h : H a = none) : H0 a = none := by
  cases e : H0 a with
  | none => rfl
  | some o => exact absurd h (s.fr.some s.h0 (by rw [e]; simp))
/-- a slot of one's own, from an object made since H -/
theorem Sit.setNew {Z : Zc} {B : Addr} {H0 F0 Fl F H F' H' : Hp} {σ : L2.St} {env : En} (s : Sit Z B H0 F0 Fl F H σ env) (f : Fr B H F H' F') {d : D} {v : V} (i : Nat) (r : Res Z B H F' H' d v .new) :
    Sit Z B H0 F0 Fl F' H' (σ.set i (some v)) (env.set i (.own d)) := by
  obtain ⟨a, o, rfl, ha, hf, ho, t⟩ := r
  have s' := s.step f
  refine ⟨s.h0, s'.fr, s'.fl, s'.sr.setOwn i (s.back ha) (s.fr.hd.newB ha) hf ho t fun j b e e1 e2 e3 => ?_⟩
  obtain ⟨a', o', q1, q2, q3, q4, q5, _⟩ := s.sr.own e1
  rw [e2] at q1
  cases q1
  rw [e3, ha] at q5
  cases q5
/-- an object of one's own is written -/
theorem SR.put {Z : Zc} {B : Addr} {F H : Hp} {H0 : Addr → Prop} {σ : L2.St} {env : En} (s : SR Z B H0 F H σ env) {j : Nat} {d : D} (e : env[j]? = some (.own d)) :
    ∃ a o, σ[j]? = some (some (.ref a)) ∧ H0 a ∧ a ≠ B ∧ F a = none ∧ H a = some o ∧ Top Z B F o d ∧ ∀ o' d', Top Z B F o' d' → SR Z B H0 F (upd H a o') σ (env.set j (.own d')) := by
  obtain ⟨ad, inj, q⟩ := s.ad
  obtain ⟨e1, e2, e3, e4, o, e5, t⟩ := q j _ e
  refine ⟨ad j, o, e1, e2, e3, e4, e5, t, fun o' d' t' => ⟨by rw [List.length_set]; exact s.len, ad, ?_, ?_⟩⟩
  · have key : ∀ (k : Nat) (s : Sl), (env.set j (.own d'))[k]? = some s → s.isOwn → ∃ s' : Sl, env[k]? = some s' ∧ s'.isOwn := fun k s h o => by
      by_cases hk : j = k
      · subst hk; exact ⟨_, e, trivial⟩
      · rw [List.getElem?_set_ne hk] at h; exact ⟨s, h, o⟩
    intro k l s t h1 h2 o1 o2 h
    obtain ⟨s', g1, p1⟩ := key k s h1 o1
    obtain ⟨t', g2, p2⟩ := key l t h2 o2
    exact inj k l s' t' g1 g2 p1 p2 h
  · intro k s h
    by_cases hk : j = k
    · subst hk
      by_cases hl : j < env.length
      · rw [List.getElem?_set_self hl] at h; cases h
        exact ⟨e1, e2, e3, e4, o', upd_same, t'⟩
      · rw [List.getElem?_eq_none (by simpa using hl)] at h; cases h
    · rw [List.getElem?_set_ne hk] at h
      have z := q k s h
      cases s with
      | no => trivial
      | val d => exact z
      | own d2 =>
        obtain ⟨z1, z2, z3, z4, o2, z5, z6⟩ := z
        refine ⟨z1, z2, z3, z4, o2, ?_, z6⟩
        rw [upd_ne fun x => hk (inj j k _ _ e h trivial trivial x.symm)]
        exact z5
theorem Fr.put {B : Addr} {H0 F0 F H : Hp} (f : Fr B H0 F0 H F) {a : Addr} {o : HO} (h0 : H0 a = none) (nb : a ≠ B) (hf : F a = none) : Fr B H0 F0 (upd H a o) F :=
  ⟨fun b u ne e => by rw [upd_ne (ne_of_none e h0)]; exact f.keep b u ne e, f.new, ⟨fun b u e => by rw [upd_ne (ne_of_none e hf)]; exact f.hd.le b u e, f.hd.fb, by
    obtain ⟨x, y, z, e, q⟩ := f.hd.bag
    exact ⟨x, y, z, by rw [upd_ne (Ne.symm nb)]; exact e, q⟩⟩⟩
section
variable {X : Cx} {Z : Zc} {st : Stmt} {sts rest : List Stmt} {e : Expr} {pos : Pos} {w wa wb : WE} {ws us : WS} {wt : WT}
theorem _root_.L2.PS.imp {t t' : TS} (h : PS X st t) (i : ∀ D σ H, t' D σ H → t D σ H) : PS X st t' := ⟨fun pins s σ H D I q => h.run pins s σ H D I (i D σ H q)⟩
theorem _root_.L2.PSs.imp {t t' : TS} (h : PSs X sts t) (i : ∀ D σ H, t' D σ H → t D σ H) : PSs X sts t' := ⟨fun pins s σ H D I q => h.run pins s σ H D I (i D σ H q)⟩
/-- the expression's own part of a statement -/
theorem tE_in {k : Kd} {B : Addr} {H0 F0 Fl F H : Hp} {σ : L2.St} {env : En} (s : Sit Z B H0 F0 Fl F H σ env) {P : D → Prop} {Q : VK} (hw : w env P)
    (q : ∀ d F' H' v, P d → Fr B H F H' F' → Sit Z B H0 F0 Fl F' H' σ env → Res Z B H F' H' d v k → Q v H') : tE Z k w σ H Q :=
  ⟨B, _, F, env, P, s.fr.hd, s.sr, hw, fun d F' H' v p f r => q d F' H' v p f (s.step f) r⟩
theorem tT_in {B : Addr} {H0 F0 Fl F H : Hp} {σ : L2.St} {env : En} (s : Sit Z B H0 F0 Fl F H σ env) {P : Bool → Prop} {Q : Bool → Hp → Prop} (hw : wt env P)
    (q : ∀ d F' H', P d → Sit Z B H0 F0 Fl F' H' σ env → Q d H') : tT Z wt σ H Q :=
  ⟨B, _, F, env, P, s.fr.hd, s.sr, hw, fun d F' H' p f => q d F' H' p (s.step f)⟩

/-! ### blocks, simple statements -/
@[simp] def wNext : WS := fun E env => E.nx env
@[simp] def wSeq (ws us : WS) : WS := fun E env => ws { E with nx := us E } env
theorem pds_nil : PSs X [] (tS Z wNext) := pss_nil.imp fun T σ H ⟨B, H0, F0, Fl, F, env, E, s, hw, wt⟩ => wt.nx env σ F H hw s
theorem pds_cons (h1 : PS X st (tS Z ws)) (h2 : PSs X rest (tS Z us)) : PSs X (st :: rest) (tS Z (wSeq ws us)) := (pss_cons h1 h2).imp fun T σ H ⟨B, H0, F0, Fl, F, env, E, s, hw, wt⟩ =>
  ⟨B, H0, F0, Fl, F, env, _, s, hw, ⟨fun env' σ' F' H' h s' => ⟨B, H0, F0, Fl, F', env', E, s', h, wt⟩, wt.rt, wt.bk, wt.ct⟩⟩
theorem pds_one (h1 : PS X st (tS Z ws)) : PSs X [st] (tS Z ws) := pss_one h1
@[simp] def wNever : WS := fun _ _ => False
theorem pds_never : PSs X sts (tS Z wNever) := pss_never.imp fun T σ H ⟨B, H0, F0, Fl, F, env, E, s, hw, wt⟩ => hw.elim
theorem pd_never : PS X st (tS Z wNever) := ps_never.imp fun T σ H ⟨B, H0, F0, Fl, F, env, E, s, hw, wt⟩ => hw.elim
@[simp] def wExpr (w : WE) : WS := fun E env => w env fun _ => E.nx env
theorem pd_expr (he : PE X e (tE Z .frz w)) (hs : swapsWith e none pos.line X.env = pure false := by rfl) : PS X (.Expr e pos) (tS Z (wExpr w)) := (ps_expr he hs).imp fun T σ H ⟨B, H0, F0, Fl, F, env, E, s, hw, wt⟩ =>
  tE_in s hw fun d F' H' v p f s' r => wt.nx env σ F' H' p s'
theorem pd_doc {x j pos pos'} : PS X (.Expr (.Constant (.str x) j pos) pos') (tS Z wNext) := ps_doc.imp fun T σ H ⟨B, H0, F0, Fl, F, env, E, s, hw, wt⟩ => wt.nx env σ F H hw s
@[simp] def wRet (w : WE) : WS := fun E env => w env E.rt
theorem pd_ret (he : PE X e (tE Z .frz w)) : PS X (.Return (some e) pos) (tS Z (wRet w)) := (ps_ret he).imp fun T σ H ⟨B, H0, F0, Fl, F, env, E, s, hw, wt⟩ =>
  tE_in s hw fun d F' H' v p f s' r => wt.rt d v F' H' p s'.fr r
@[simp] def wRetN : WS := fun E _ => E.rt .non
theorem pd_retN : PS X (.Return none pos) (tS Z wRetN) := ps_retN.imp fun T σ H ⟨B, H0, F0, Fl, F, env, E, s, hw, wt⟩ => wt.rt _ .non F H hw s.fr rfl
@[simp] def wRetOwn (i : Nat) : WS := fun E env => ∃ d, env[i]? = some (.own d) ∧ E.rt d
theorem pd_retOwn {i : Nat} {x : Str} {pos' : Pos} (hN : X.N[i]? = some x) (hv : Vis X.env.scope x) (hd : (x == ("__debug__" : Str)) = false := by decide) (hcd : (x == ("__classdict__" : Str)) = false := by decide) :
    PS X (.Return (some (.Name x pos')) pos) (tS Z (wRetOwn i)) := (ps_ret (pe_var hN hv hd hcd)).imp fun T σ H ⟨B, H0, F0, Fl, F, env, E, s, ⟨d, e, p⟩, wt⟩ => by
  obtain ⟨a, o, e1, e2, e3, e4, e5, t⟩ := s.sr.own e
  refine ⟨_, e1, ?_⟩
  have le : Le F (upd F a o) := le_upd e4
  have f2 : Fr B H0 F0 H (upd F a o) := ⟨s.fr.keep, fun b hb => by
      rw [upd_ne]; exact s.fr.new b hb
      intro z; rw [z] at hb; exact hb e2, ⟨fun b u h => by
        by_cases z : b = a
        · subst z; rw [upd_same] at h; cases h; exact e5
        · rw [upd_ne z] at h; exact s.fr.hd.le b u h, by rw [upd_ne (Ne.symm e3)]; exact s.fr.hd.fb, s.fr.hd.bag⟩⟩
  refine wt.rt d _ _ H p f2 ?_
  cases d with
  | lst ds =>
    obtain ⟨xs, e, q⟩ := t
    subst e
    exact ⟨a, xs, rfl, upd_same, q.mono le⟩
  | dic kvs =>
    refine ⟨a, rfl, ?_⟩
    rw [← show o = _ from t]; exact upd_same
  | _ => exact t.elim
@[simp] def wIf (wt : WT) (ws us : WS) : WS := fun E env => wt env fun b => if b = true then ws E env else us E env
theorem pd_if {c : Expr} {a b : List Stmt} (hc : PT X c (tT Z wt)) (ha : PSs X a (tS Z ws)) (hb : PSs X b (tS Z us)) : PS X (.If c a b pos) (tS Z (wIf wt ws us)) := (ps_if hc ha hb).imp fun T σ H ⟨B, H0, F0, Fl, F, env, E, s, hw, wt⟩ =>
  tT_in s hw fun b F' H' p s' => by
    cases b with
    | true => rw [if_pos rfl] at p ⊢; exact ⟨B, H0, F0, Fl, F', env, E, s', p, wt⟩
    | false => rw [if_neg (by decide)] at p ⊢; exact ⟨B, H0, F0, Fl, F', env, E, s', p, wt⟩

/-! ### stores -/
@[simp] def wSet (i : Nat) (w : WE) : WS := fun E env => w env fun d => E.nx (env.set i (.val d))
@[simp] def wSetN (i : Nat) (w : WE) : WS := fun E env => w env fun d => E.nx (env.set i (.own d))
variable {i j l : Nat} {x y z : Str} {pos' : Pos}
theorem pd_set (hN : X.N.Nodup) (hi : X.N[i]? = some x) (hx : Loc X.env.scope x) (he : PE X e (tE Z .frz w)) (hs : swapsWith e (some (.Name x pos')) pos.line X.env = pure false := by rfl) (hf : X.fn x = true ∨ X.env.scope.names.lookup x = some .local := by first | exact .inl rfl | exact .inr rfl | assumption) :
    PS X (.Assign [.Name x pos'] e pos) (tS Z (wSet i w)) := (ps_set hN hi hx he hs hf).imp fun T σ H ⟨B, H0, F0, Fl, F, env, E, s, hw, wt⟩ =>
  tE_in s hw fun d F' H' v p f s' r => wt.nx _ _ F' H' p (s'.set i r)
theorem pd_setN (hN : X.N.Nodup) (hi : X.N[i]? = some x) (hx : Loc X.env.scope x) (he : PE X e (tE Z .new w)) (hs : swapsWith e (some (.Name x pos')) pos.line X.env = pure false := by rfl) (hf : X.fn x = true ∨ X.env.scope.names.lookup x = some .local := by first | exact .inl rfl | exact .inr rfl | assumption) :
    PS X (.Assign [.Name x pos'] e pos) (tS Z (wSetN i w)) := (ps_set hN hi hx he hs hf).imp fun T σ H ⟨B, H0, F0, Fl, F, env, E, s, hw, wt⟩ =>
  tE_in s hw fun d F' H' v p f s' r => wt.nx _ _ F' H' p (s.setNew f i r)
/-- the kind of a slot by the kind of a value -/
@[simp] def slOf : Kd → D → Sl
  | .new, d => .own d
  | _, d => .val d
theorem Res.step {B : Addr} {H F1 H1 F2 H2 : Hp} {d : D} {v : V} {k : Kd} (hd : HdOk B F1 H1) (hb : ∀ a, H a = none → a ≠ B) (f : Fr B H1 F1 H2 F2) (r : Res Z B H F1 H1 d v k) : Res Z B H F2 H2 d v k := by
  cases k with
  | new =>
    obtain ⟨a, o, e, h, q1, q2, t⟩ := r
    exact ⟨a, o, e, h, by rw [f.new a (by rw [q2]; simp)]; exact q1, f.keep a o (hb a h) q2, t.mono (f.leF hd)⟩
  | frz => exact Rep.mono (f.leF hd) r
  | view => exact RepV.step hd f r
/-- a value of either kind is put into its slot: s the situation ahead of it, f what has happened since -/
theorem Sit.setK {B : Addr} {H0 F0 Fl F H F' H' : Hp} {σ : L2.St} {env : En} {k : Kd} (hk : k ≠ .view) (s : Sit Z B H0 F0 Fl F H σ env) (f : Fr B H F H' F') {d : D} {v : V} (i : Nat) (r : Res Z B H F' H' d v k) :
    Sit Z B H0 F0 Fl F' H' (σ.set i (some v)) (env.set i (slOf k d)) := by
  cases k with
  | new => exact s.setNew f i r
  | frz => exact (s.step f).set i r
  | view => exact absurd rfl hk
/-- two values of their kinds are put -/
theorem Sit.setK2 {B : Addr} {H0 F0 Fl F H F1 H1 F2 H2 : Hp} {σ : L2.St} {env : En} {k1 k2 : Kd} (hk1 : k1 ≠ .view) (hk2 : k2 ≠ .view) (s : Sit Z B H0 F0 Fl F H σ env) (f1 : Fr B H F H1 F1) (f2 : Fr B H1 F1 H2 F2) {d1 d2 : D} {v1 v2 : V} (i j : Nat) (hij : i ≠ j)
    (r1 : Res Z B H F1 H1 d1 v1 k1) (r2 : Res Z B H1 F2 H2 d2 v2 k2) : Sit Z B H0 F0 Fl F2 H2 ((σ.set i (some v1)).set j (some v2)) ((env.set i (slOf k1 d1)).set j (slOf k2 d2)) := by
  have s1 := s.setK hk1 f1 i r1
  exact s1.setK hk2 f2 j r2
@[simp] def wPar2 (i j : Nat) (k1 k2 : Kd) (wa wb : WE) : WS := fun E env => wa env fun d1 => wb env fun d2 => E.nx ((env.set i (slOf k1 d1)).set j (slOf k2 d2))
theorem pd_par2 {a b : Expr} {k1 k2 : Kd} {px py pt : Pos} {kt kt2 pt2} (hk1 : k1 ≠ .view := by decide) (hk2 : k2 ≠ .view := by decide) (hc : X.calm = true) (hN : X.N.Nodup) (hi : X.N[i]? = some x) (hj : X.N[j]? = some y) (hij : i ≠ j)
    (hx : X.env.scope.names.lookup x = some .local) (hy : X.env.scope.names.lookup y = some .local) (ha : PE X a (tE Z k1 wa)) (hb : PE X b (tE Z k2 wb))
    (hw : swappedStores [.Tuple [.Name x px, .Name y py] kt pt] (.Tuple [a, b] kt2 pt2) X.env = pure (some [x, y])) (ht1 : starEach [a, b] X.env = (false, eval a X.env) :: starEach [b] X.env := by rfl) (ht2 : starEach [b] X.env = (false, eval b X.env) :: starEach [] X.env := by rfl)
    (hs : swapsWithSole [.Tuple [.Name x px, .Name y py] kt pt] (.Tuple [a, b] kt2 pt2) pos.line X.env = pure false := by rfl) :
    PS X (.Assign [.Tuple [.Name x px, .Name y py] kt pt] (.Tuple [a, b] kt2 pt2) pos) (tS Z (wPar2 i j k1 k2 wa wb)) :=
  (ps_par hc hN hi hj hij hx hy (pa_cons ha (pa_cons hb pa_nil ht2) ht1) hw hs).imp fun T σ H ⟨B, H0, F0, Fl, F, env, E, s, hw, wt⟩ => by
    refine tE_in s hw fun d1 F1 H1 v1 p1 f1 s1 r1 => ?_
    refine tE_in s1 p1 fun d2 F2 H2 v2 p2 f2 s2 r2 => ?_
    exact ⟨v1, v2, rfl, wt.nx _ _ F2 H2 p2 (Sit.setK2 hk1 hk2 s f1 f2 i j hij r1 r2)⟩
@[simp] def wPar3 (i j l : Nat) (k1 k2 k3 : Kd) (wa wb wc : WE) : WS := fun E env => wa env fun d1 => wb env fun d2 => wc env fun d3 => E.nx (((env.set i (slOf k1 d1)).set j (slOf k2 d2)).set l (slOf k3 d3))
theorem pd_par3 {wc : WE} {a b c : Expr} {k1 k2 k3 : Kd} {px py pz pt : Pos} {kt kt2 pt2} (hk1 : k1 ≠ .view := by decide) (hk2 : k2 ≠ .view := by decide) (hk3 : k3 ≠ .view := by decide) (hc : X.calm = true) (hN : X.N.Nodup) (hi : X.N[i]? = some x) (hj : X.N[j]? = some y) (hl : X.N[l]? = some z) (hij : i ≠ j) (hil : i ≠ l) (hjl : j ≠ l)
    (hx : X.env.scope.names.lookup x = some .local) (hy : X.env.scope.names.lookup y = some .local) (hz : X.env.scope.names.lookup z = some .local) (ha : PE X a (tE Z k1 wa)) (hb : PE X b (tE Z k2 wb)) (hcc : PE X c (tE Z k3 wc))
    (hw : swappedStores [.Tuple [.Name x px, .Name y py, .Name z pz] kt pt] (.Tuple [a, b, c] kt2 pt2) X.env = pure (some [x, y, z])) (ht1 : starEach [a, b, c] X.env = (false, eval a X.env) :: starEach [b, c] X.env := by rfl) (ht2 : starEach [b, c] X.env = (false, eval b X.env) :: starEach [c] X.env := by rfl) (ht3 : starEach [c] X.env = (false, eval c X.env) :: starEach [] X.env := by rfl)
    (hs : swapsWithSole [.Tuple [.Name x px, .Name y py, .Name z pz] kt pt] (.Tuple [a, b, c] kt2 pt2) pos.line X.env = pure false := by rfl) :
    PS X (.Assign [.Tuple [.Name x px, .Name y py, .Name z pz] kt pt] (.Tuple [a, b, c] kt2 pt2) pos) (tS Z (wPar3 i j l k1 k2 k3 wa wb wc)) :=
  (ps_par3 hc hN hi hj hl hij hil hjl hx hy hz (pa_cons ha (pa_cons hb (pa_cons hcc pa_nil ht3) ht2) ht1) hw hs).imp fun T σ H ⟨B, H0, F0, Fl, F, env, E, s, hw, wt⟩ => by
    refine tE_in s hw fun d1 F1 H1 v1 p1 f1 s1 r1 => ?_
    refine tE_in s1 p1 fun d2 F2 H2 v2 p2 f2 s2 r2 => ?_
    refine tE_in s2 p2 fun d3 F3 H3 v3 p3 f3 s3 r3 => ?_
    exact ⟨v1, v2, v3, rfl, wt.nx _ _ F3 H3 p3 ((Sit.setK2 hk1 hk2 s f1 f2 i j hij r1 r2).setK hk3 f3 l r3)⟩
/-- x op= e -/
@[simp] def wAug (i : Nat) (w2 : W2) (w : WE) : WS := fun E env => ∃ d0, env[i]? = some (.val d0) ∧ w env fun d1 => w2 d0 d1 fun d => E.nx (env.set i (.val d))
theorem pd_aug {op : Operator} {r : R2} {w2 : W2} (hN : X.N.Nodup) (hi : X.N[i]? = some x) (hx : Loc X.env.scope x) (he : PE X e (tE Z .view w)) (ho : OpR X (inplaceOp op) r) (hr : OpD Z .frz r w2) (hf : X.fn x = true ∨ X.env.scope.names.lookup x = some .local := by first | exact .inl rfl | exact .inr rfl | assumption) :
    PS X (.AugAssign (.Name x pos') op e pos) (tS Z (wAug i w2 w)) := (ps_aug (ti := r) hN hi hx he (fun pins s σ H x y v u Q I r1 r2 h => ho pins s σ H x y v u Q I r1 r2 h) hf).imp fun T σ H ⟨B, H0, F0, Fl, F, env, E, s, ⟨d0, e0, hw⟩, wt⟩ => by
  obtain ⟨v0, e1, r0⟩ := s.sr.val e0
  refine ⟨v0, e1, tE_in s hw fun d1 F1 H1 v1 p1 f1 s1 r1 => ?_⟩
  exact hr B F1 H1 d0 d1 v0 v1 _ _ s1.fr.hd (.inl (r0.mono (f1.leF s.fr.hd))) r1 p1 fun d F' H' v p f r => wt.nx _ _ F' H' p ((s1.step f).set i r)
/-- xs[i] = e, xs a list of the def's own -/
@[simp] def wPutL (j : Nat) (w wi : WE) : WS := fun E env => ∃ ds, env[j]? = some (.own (.lst ds)) ∧ w env fun dv => wi env fun di => ∃ k n, di = .int k ∧ ixN ds.length k = some n ∧ E.nx (env.set j (.own (.lst (ds.set n dv))))
theorem pd_putL {a : Expr} {px po : Pos} (hN : X.N[j]? = some x) (hv : Vis X.env.scope x) (ha : PE X a (tE Z .view wa)) (he : PE X e (tE Z .frz w)) (hd : (x == ("__debug__" : Str)) = false := by decide) (hcd : (x == ("__classdict__" : Str)) = false := by decide)
    (hs : swapsWithSole [.Subscript (.Name x px) a po] e pos.line X.env = pure false := by rfl) (hw : swappedStores [.Subscript (.Name x px) a po] e X.env = pure none := by rfl)
    (h1 : (assignEach [.Subscript (.Name x px) a po] X.env).map (·.2) = [assign (.Subscript (.Name x px) a po) X.env] := by rfl)
    (h2 : ∀ v, assign (.Subscript (.Name x px) a po) X.env v = (do
      let ov ← holding [v] (eval (.Name x px) X.env)
      let iv ← holding [v, ov] (eval a X.env)
      standAt po
      holding [v, ov, iv] (setItem ov iv v)
      release [v, ov, iv] []) := by intro _; rfl) : PS X (.Assign [.Subscript (.Name x px) a po] e pos) (tS Z (wPutL j w wa)) :=
  (ps_asg he (pg_sub (pe_var hN hv hd hcd) ha set_list h2) hs hw h1).imp fun T σ H ⟨B, H0, F0, Fl, F, env, E, s, ⟨ds, e0, hw⟩, wt⟩ => by
    refine tE_in s hw fun dv F1 H1 v1 p1 f1 s1 r1 => ?_
    obtain ⟨a, o, e1, e2, e3, e4, e5, t, go⟩ := s1.sr.put e0
    refine ⟨_, e1, tE_in s1 p1 fun di F2 H2 v2 p2 f2 s2 r2 => ?_⟩
    obtain ⟨k, n, hk, hn, p2⟩ := p2
    subst hk
    obtain ⟨a', o', e1', e2', e3', e4', e5', ⟨xs, eo, t⟩, go'⟩ := s2.sr.put e0
    subst eo
    rw [e1] at e1'
    cases e1'
    refine ⟨a, xs, k, n, rfl, RepV.int r2, e5', by rw [t.length]; exact hn, ?_⟩
    exact wt.nx _ _ F2 _ p2 ⟨s2.h0, s2.fr.put e2' e3' e4', s2.fl, go' _ (.lst (ds.set n dv)) ⟨_, rfl, t.set n (Rep.mono (f2.leF s1.fr.hd) r1)⟩⟩
/-- dicts of ints -/
def getI (kvs : List (Int × Int)) (k : Int) : Option Int := (kvs.find? fun p => decide (p.1 = k)).map (·.2)
def putI (kvs : List (Int × Int)) (k v : Int) : List (Int × Int) := if (kvs.any fun p => decide (p.1 = k)) = true then kvs.map (fun p => if p.1 = k then (p.1, v) else p) else kvs ++ [(k, v)]
theorem valV_enc (k : Int) : ∀ kvs : List (Int × Int), valV (encD kvs) (Sum.inl k : Key) = (getI kvs k).map V.int
  | [] => rfl
  | (a, b) :: r => by
    by_cases h : a = k
    · subst h; simp [encD, valV, getI]
    · have ih := valV_enc k r
      simp only [encD, valV, getI, List.map_cons, List.find?_cons] at ih ⊢
      simp only [h, Sum.inl.injEq, decide_false]
      exact ih
theorem putK_enc (k v : Int) (kvs : List (Int × Int)) : putK (encD kvs) (Sum.inl k : Key) (V.int v) = encD (putI kvs k v) := by
  unfold putK putI encD
  rw [List.any_map]
  have e : ((fun kv : Key × V => decide (kv.1 = Sum.inl k)) ∘ fun p : Int × Int => ((Sum.inl p.1 : Key), V.int p.2)) = fun p : Int × Int => decide (p.1 = k) := by
    funext p
    simp
  rw [e]
  split
  · rw [List.map_map, List.map_map]
    apply List.map_congr_left
    intro p _
    simp only [Function.comp, Sum.inl.injEq]
    split <;> rfl
  · rw [List.map_append]; rfl
/-- d[i] = e, d a dict of the def's own -/
@[simp] def wPutD (j : Nat) (w wi : WE) : WS := fun E env => ∃ kvs, env[j]? = some (.own (.dic kvs)) ∧ w env fun dv => wi env fun di => ∃ k v, di = .int k ∧ dv = .int v ∧ kvs.length < sizeLine ∧ E.nx (env.set j (.own (.dic (putI kvs k v))))
theorem pd_putD {a : Expr} {px po : Pos} (hu : X.A.units + 1 < cLine) (hN : X.N[j]? = some x) (hv : Vis X.env.scope x) (ha : PE X a (tE Z .view wa)) (he : PE X e (tE Z .frz w)) (hd : (x == ("__debug__" : Str)) = false := by decide) (hcd : (x == ("__classdict__" : Str)) = false := by decide)
    (hs : swapsWith e (some (.Subscript (.Name x px) a po)) pos.line X.env = pure false := by rfl) : PS X (.Assign [.Subscript (.Name x px) a po] e pos) (tS Z (wPutD j w wa)) :=
  (ps_dput hu (pe_var hN hv hd hcd) ha he hs).imp fun T σ H ⟨B, H0, F0, Fl, F, env, E, s, ⟨ds, e0, hw⟩, wt⟩ => by
    refine tE_in s hw fun dv F1 H1 v1 p1 f1 s1 r1 => ?_
    obtain ⟨a, o, e1, e2, e3, e4, e5, t, go⟩ := s1.sr.put e0
    refine ⟨_, e1, tE_in s1 p1 fun di F2 H2 v2 p2 f2 s2 r2 => ?_⟩
    obtain ⟨k, n, hk, hn, hl, p2⟩ := p2
    subst hk
    subst hn
    obtain ⟨a', o', e1', e2', e3', e4', e5', eo, go'⟩ := s2.sr.put e0
    rw [show o' = _ from eo] at e5'
    rw [e1] at e1'
    cases e1'
    rw [RepV.int r2, show v1 = V.int n from r1]
    refine ⟨a, _, rfl, DPut.k (k := Sum.inl k) e5' (by rw [encD, List.length_map]; exact hl), ?_⟩
    rw [putK_enc]
    exact wt.nx _ _ F2 _ p2 ⟨s2.h0, s2.fr.put e2' e3' e4', s2.fl, go' _ (.dic (putI ds k n)) rfl⟩
/-! ### append, extend, remove on a list of the def's own -/
@[simp] def wApp (j : Nat) (w : WE) : WS := fun E env => ∃ ds, env[j]? = some (.own (.lst ds)) ∧ w env fun d => ds.length < sizeLine ∧ E.nx (env.set j (.own (.lst (ds ++ [d]))))
@[simp] def wExt (j : Nat) (w : WE) : WS := fun E env => ∃ ds, env[j]? = some (.own (.lst ds)) ∧ w env fun d => ∃ es, d = .lst es ∧ ds.length + es.length ≤ sizeLine ∧ E.nx (env.set j (.own (.lst (ds ++ es))))
@[simp] def wRem (j : Nat) (w : WE) : WS := fun E env => ∃ ds, env[j]? = some (.own (.lst ds)) ∧ w env fun d => ∃ (is : List Int) (k : Int) (n : Nat), ds = is.map D.int ∧ d = .int k ∧ is[n]? = some k ∧ (∀ m : Nat, m < n → is[m]? ≠ some k) ∧ E.nx (env.set j (.own (.lst ((is.eraseIdx n).map D.int))))
section
variable {xpos apos cpos : Pos} {name : Str} {id : String} {r : V → List V → Hp → VK → Prop}
/-- the common part: what the method does to the list -/
theorem own_meth {R : List D → D → (List D → Prop) → Prop} (slot : Slot "list" name id) (hty : typeOf (.builtin id) = pure (.type "method_descriptor")) (hm : MtR X id r)
    (hR : ∀ (B : Addr) (F H : Hp) (l : Addr) (xs : List V) (ds : List D) (d : D) (v : V) (K : List D → Prop) (Q : VK), HdOk B F H → H l = some (.lst xs) → Reps Z B F ds xs → Rep Z B F d v → F l = none → R ds d K →
      (∀ ys es, Reps Z B F es ys → K es → Q .non (upd H l (.lst ys))) → r (.ref l) [v] H Q)
    (hN : X.N[j]? = some x) (hv : Vis X.env.scope x) (he : PE X e (tE Z .frz w)) (hd : (x == ("__debug__" : Str)) = false := by decide) (hcd : (x == ("__classdict__" : Str)) = false := by decide)
    (hsw : swapsWith (.Call (.Attribute (.Name x xpos) name apos) [e] [] cpos) none pos.line X.env = pure false := by rfl)
    (hbase : attributeBase (.Name x xpos) name X.env (eval (.Name x xpos) X.env) = eval (.Name x xpos) X.env := by rfl)
    (hfew : ((backTo cpos (starEach [e] X.env)).all (fun x => !x.1) && (backToKw cpos (keywordEach [] X.env)).all (fun x => x.1.isSome)
      && decide ([e].length + ([] : List Keyword).length + (if ([] : List Keyword).isEmpty then 0 else 1) < 30)) = true := by rfl)
    (hline : (apos.endLine == cpos.line) = true := by rfl) (hs : starEach [e] X.env = (false, eval e X.env) :: starEach [] X.env := by rfl) (hplain : (backTo cpos (starEach [] X.env)).any (·.1) = false := by rfl) :
    PS X (.Expr (.Call (.Attribute (.Name x xpos) name apos) [e] [] cpos) pos) (tS Z fun E env => ∃ ds, env[j]? = some (.own (.lst ds)) ∧ w env fun d => R ds d fun es => E.nx (env.set j (.own (.lst es)))) :=
  (ps_expr (pe_bm PySem.F.plainAttrs_list slot hty hm (pe_var hN hv hd hcd) (pa_cons he pa_nil hs) hbase hfew hline hs hplain) hsw).imp fun T σ H ⟨B, H0, F0, Fl, F, env, E, s, ⟨ds, e0, hw⟩, wt⟩ => by
    obtain ⟨a, o, e1, e2, e3, e4, e5, ⟨xs, eo, t⟩, go⟩ := s.sr.put e0
    subst eo
    refine ⟨_, e1, .inl ⟨rfl, xs, SqL.of e5⟩, tE_in s hw fun d F2 H2 v2 p2 f2 s2 r2 => ?_⟩
    obtain ⟨a', o', e1', e2', e3', e4', e5', ⟨xs', eo, t'⟩, go'⟩ := s2.sr.put e0
    subst eo
    rw [e1] at e1'
    cases e1'
    refine hR B F2 H2 a xs' ds d v2 _ _ s2.fr.hd e5' t' r2 e4' p2 fun ys es q k => ?_
    exact wt.nx _ _ F2 _ k ⟨s2.h0, s2.fr.put e2' e3' e4', s2.fl, go' _ (.lst es) ⟨_, rfl, q⟩⟩
end
theorem pd_app {xpos apos cpos : Pos} (hN : X.N[j]? = some x) (hv : Vis X.env.scope x) (he : PE X e (tE Z .frz w)) (hd : (x == ("__debug__" : Str)) = false := by decide) (hcd : (x == ("__classdict__" : Str)) = false := by decide)
    (hsw : swapsWith (.Call (.Attribute (.Name x xpos) "append" apos) [e] [] cpos) none pos.line X.env = pure false := by rfl)
    (hbase : attributeBase (.Name x xpos) "append" X.env (eval (.Name x xpos) X.env) = eval (.Name x xpos) X.env := by rfl)
    (hfew : ((backTo cpos (starEach [e] X.env)).all (fun x => !x.1) && (backToKw cpos (keywordEach [] X.env)).all (fun x => x.1.isSome)
      && decide ([e].length + ([] : List Keyword).length + (if ([] : List Keyword).isEmpty then 0 else 1) < 30)) = true := by rfl)
    (hline : (apos.endLine == cpos.line) = true := by rfl) (hs : starEach [e] X.env = (false, eval e X.env) :: starEach [] X.env := by rfl) (hplain : (backTo cpos (starEach [] X.env)).any (·.1) = false := by rfl) :
    PS X (.Expr (.Call (.Attribute (.Name x xpos) "append" apos) [e] [] cpos) pos) (tS Z (wApp j w)) :=
  own_meth (R := fun ds d K => ds.length < sizeLine ∧ K (ds ++ [d])) PySem.F.slot_list_append PySem.F.type_list_append mt_append (fun B F H l xs ds d v K Q hd hl rs rd _ h k =>
    ⟨l, xs, v, rfl, rfl, hl, by rw [rs.length]; exact h.1, k _ _ (rs.append (Reps.cons rd Reps.nil)) h.2⟩) hN hv he hd hcd hsw hbase hfew hline hs hplain
theorem pd_ext {xpos apos cpos : Pos} (hN : X.N[j]? = some x) (hv : Vis X.env.scope x) (he : PE X e (tE Z .frz w)) (hd : (x == ("__debug__" : Str)) = false := by decide) (hcd : (x == ("__classdict__" : Str)) = false := by decide)
    (hsw : swapsWith (.Call (.Attribute (.Name x xpos) "extend" apos) [e] [] cpos) none pos.line X.env = pure false := by rfl)
    (hbase : attributeBase (.Name x xpos) "extend" X.env (eval (.Name x xpos) X.env) = eval (.Name x xpos) X.env := by rfl)
    (hfew : ((backTo cpos (starEach [e] X.env)).all (fun x => !x.1) && (backToKw cpos (keywordEach [] X.env)).all (fun x => x.1.isSome)
      && decide ([e].length + ([] : List Keyword).length + (if ([] : List Keyword).isEmpty then 0 else 1) < 30)) = true := by rfl)
    (hline : (apos.endLine == cpos.line) = true := by rfl) (hs : starEach [e] X.env = (false, eval e X.env) :: starEach [] X.env := by rfl) (hplain : (backTo cpos (starEach [] X.env)).any (·.1) = false := by rfl) :
    PS X (.Expr (.Call (.Attribute (.Name x xpos) "extend" apos) [e] [] cpos) pos) (tS Z (wExt j w)) :=
  (own_meth (R := fun ds d K => ∃ es, d = .lst es ∧ ds.length + es.length ≤ sizeLine ∧ K (ds ++ es)) PySem.F.slot_list_extend PySem.F.type_list_extend mt_extend (fun B F H l xs ds d v K Q hd hl rs rd hf h k => by
    obtain ⟨es, e1, h1, h2⟩ := h
    subst e1
    obtain ⟨b, zs, e2, hb, rz⟩ := rd
    subst e2
    exact ⟨l, b, xs, zs, rfl, rfl, hl, hd.le _ _ hb, by rw [rs.length, rz.length]; exact h1, k _ _ (rs.append rz) h2⟩) hN hv he hd hcd hsw hbase hfew hline hs hplain)
theorem map_erase {α β : Type} (f : α → β) : ∀ (xs : List α) (n : Nat), (xs.eraseIdx n).map f = (xs.map f).eraseIdx n
  | [], _ => rfl
  | _ :: _, 0 => rfl
  | x :: xs, n + 1 => by simp [map_erase f xs n]
theorem pd_rem {xpos apos cpos : Pos} (hN : X.N[j]? = some x) (hv : Vis X.env.scope x) (he : PE X e (tE Z .frz w)) (hd : (x == ("__debug__" : Str)) = false := by decide) (hcd : (x == ("__classdict__" : Str)) = false := by decide)
    (hsw : swapsWith (.Call (.Attribute (.Name x xpos) "remove" apos) [e] [] cpos) none pos.line X.env = pure false := by rfl)
    (hbase : attributeBase (.Name x xpos) "remove" X.env (eval (.Name x xpos) X.env) = eval (.Name x xpos) X.env := by rfl)
    (hfew : ((backTo cpos (starEach [e] X.env)).all (fun x => !x.1) && (backToKw cpos (keywordEach [] X.env)).all (fun x => x.1.isSome)
      && decide ([e].length + ([] : List Keyword).length + (if ([] : List Keyword).isEmpty then 0 else 1) < 30)) = true := by rfl)
    (hline : (apos.endLine == cpos.line) = true := by rfl) (hs : starEach [e] X.env = (false, eval e X.env) :: starEach [] X.env := by rfl) (hplain : (backTo cpos (starEach [] X.env)).any (·.1) = false := by rfl) :
    PS X (.Expr (.Call (.Attribute (.Name x xpos) "remove" apos) [e] [] cpos) pos) (tS Z (wRem j w)) :=
  (own_meth (R := fun ds d K => ∃ (is : List Int) (k : Int) (n : Nat), ds = is.map D.int ∧ d = .int k ∧ is[n]? = some k ∧ (∀ m : Nat, m < n → is[m]? ≠ some k) ∧ K ((is.eraseIdx n).map D.int)) PySem.F.slot_list_remove PySem.F.type_list_remove mt_remove (fun B F H l xs ds d v K Q hd hl rs rd hf h k => by
    obtain ⟨is, i, n, e1, e2, h1, h2, h3⟩ := h
    subst e1
    subst e2
    rw [rs.ints] at hl
    rw [show v = V.int i from rd]
    exact ⟨l, is, i, n, rfl, rfl, hl, h1, h2, k _ _ (Reps.ofInts _) h3⟩) hN hv he hd hcd hsw hbase hfew hline hs hplain)
end
end DL

namespace DL
open PySem PySem.Spec PyProof.Rows L2

/-! ### targets -/
abbrev WG := D → En → (En → Prop) → Prop
/-- the slots outside the list stay -/
def Off (is : List Nat) (σ σ' : L2.St) : Prop := σ'.length = σ.length ∧ ∀ j, j ∉ is → σ'[j]? = σ[j]?
theorem Off.refl (is : List Nat) (σ : L2.St) : Off is σ σ := ⟨rfl, fun _ _ => rfl⟩
theorem Off.trans {is : List Nat} {σ σ' σ'' : L2.St} (h : Off is σ σ') (k : Off is σ' σ'') : Off is σ σ'' := ⟨k.1.trans h.1, fun j hj => (k.2 j hj).trans (h.2 j hj)⟩
def tG (Z : Zc) (is : List Nat) (g : WG) : TG := fun v σ H Q => ∃ B H0 F env d P, HdOk B F H ∧ SR Z B H0 F H σ env ∧ Rep Z B F d v ∧ g d env P ∧ ∀ env' σ', P env' → SR Z B H0 F H σ' env' → Off is σ σ' → Q σ' H
def tGs (Z : Zc) (is : List Nat) (g : List D → En → (En → Prop) → Prop) : TGs := fun vs σ H Q => ∃ B H0 F env ds P, HdOk B F H ∧ SR Z B H0 F H σ env ∧ Reps Z B F ds vs ∧ g ds env P ∧ ∀ env' σ', P env' → SR Z B H0 F H σ' env' → Off is σ σ' → Q σ' H
@[simp] def gN (i : Nat) : WG := fun d env P => P (env.set i (.val d))
@[simp] def gsN : List D → En → (En → Prop) → Prop
  | [], env, P => P env
  | _ :: _, _, _ => False
@[simp] def gsC (g : WG) (gs : List D → En → (En → Prop) → Prop) : List D → En → (En → Prop) → Prop
  | d :: r, env, P => g d env fun env' => gs r env' P
  | [], _, _ => False
@[simp] def gT (n : Nat) (gs : List D → En → (En → Prop) → Prop) : WG := fun d env P => ∃ ds, d = .tup ds ∧ ds.length = n ∧ gs ds env P
section
variable {X : Cx} {Z : Zc} {e : Expr} {es : List Expr} {pos : Pos} {is : List Nat} {g : WG} {gs : List D → En → (En → Prop) → Prop}
theorem _root_.L2.PG.imp {t t' : TG} (h : PG X e t) (i : ∀ v σ H Q, t' v σ H Q → t v σ H Q) : PG X e t' := ⟨fun pins s σ H v u Q I r q => h.run pins s σ H v u Q I r (i v σ H Q q)⟩
theorem _root_.L2.PGs.imp {t t' : TGs} (h : PGs X es t) (i : ∀ v σ H Q, t' v σ H Q → t v σ H Q) : PGs X es t' := ⟨fun pins s σ H v u Q I r q => h.run pins s σ H v u Q I r (i v σ H Q q)⟩
theorem pd_gn {i : Nat} {x : Str} (his : i ∈ is) (hN : X.N.Nodup) (hi : X.N[i]? = some x) (hx : Loc X.env.scope x) (hf : X.fn x = true ∨ X.env.scope.names.lookup x = some .local := by first | exact .inl rfl | exact .inr rfl | assumption) : PG X (.Name x pos) (tG Z is (gN i)) :=
  (pg_name hN hi hx hf).imp fun v σ H Q ⟨B, H0, F, env, d, P, hd, sr, r, hg, q⟩ => q _ _ hg (sr.set i r) ⟨List.length_set, fun j hj => List.getElem?_set_ne fun z => hj (by rw [← z]; exact his)⟩
theorem pd_gsn : PGs X [] (tGs Z is gsN) := pgs_nil.imp fun vs σ H Q ⟨B, H0, F, env, ds, P, hd, sr, r, hg, q⟩ => by
  cases ds with
  | nil => exact ⟨r, q _ _ hg sr (Off.refl _ _)⟩
  | cons d ds => exact hg.elim
theorem pd_gsc (h1 : PG X e (tG Z is g)) (h2 : PGs X es (tGs Z is gs)) (hs : (assignEach (e :: es) X.env).map (·.2) = assign e X.env :: (assignEach es X.env).map (·.2) := by rfl) : PGs X (e :: es) (tGs Z is (gsC g gs)) :=
  (pgs_cons h1 h2 hs).imp fun vs σ H Q ⟨B, H0, F, env, ds, P, hd, sr, r, hg, q⟩ => by
    cases ds with
    | nil => exact hg.elim
    | cons d t =>
      obtain ⟨v, vr, e1, r1, r2⟩ := r.cons_inv
      refine ⟨v, vr, e1, B, H0, F, env, d, _, hd, sr, r1, hg, fun env' σ' p sr' o' => ?_⟩
      exact ⟨B, H0, F, env', t, P, hd, sr', r2, p, fun env2 σ2 p2 sr2 o2 => q env2 σ2 p2 sr2 (o'.trans o2)⟩
theorem pd_gt {k : Nat} {n : Nat} (hz : Z.K = X.K) (hc : X.calm = true) (h : PGs X es (tGs Z is gs))
    (hn : (assignEach es X.env).length = n := by rfl) (hst : (assignEach es X.env).findIdx? (·.1) = none := by rfl) : PG X (.Tuple es k pos) (tG Z is (gT n gs)) :=
  (pg_tup hc h hn hst).imp fun v σ H Q ⟨B, H0, F, env, d, P, hd, sr, r, ⟨ds, e, hl, hg⟩, q⟩ => by
    subst e
    obtain ⟨a, xs, e, hs, rs⟩ := r
    exact ⟨a, xs, e, by rw [← hz]; exact hd.le.sqT hs, by rw [rs.length]; exact hl, B, H0, F, env, ds, P, hd, sr, rs, hg, q⟩
end

/-- target = value, any target -/
@[simp] def wAsg (w : WE) (g : WG) : WS := fun E env => w env fun d => g d env E.nx
theorem pd_asg {X : Cx} {Z : Zc} {tg e : Expr} {w : WE} {g : WG} {is : List Nat} {pos : Pos} (he : PE X e (tE Z .frz w)) (hg : PG X tg (tG Z is g)) (hs : swapsWithSole [tg] e pos.line X.env = pure false := by rfl) (hw : swappedStores [tg] e X.env = pure none := by rfl)
    (h1 : (assignEach [tg] X.env).map (·.2) = [assign tg X.env] := by rfl) : PS X (.Assign [tg] e pos) (tS Z (wAsg w g)) := (ps_asg he hg hs hw h1).imp fun T σ H ⟨B, H0, F0, Fl, F, env, E, s, hw, wt⟩ =>
  tE_in s hw fun d F' H' v p f s' r => ⟨B, _, F', env, d, _, s'.fr.hd, s'.sr, r, p, fun env2 σ2 p2 sr2 _ => wt.nx env2 σ2 F' H' p2 ⟨s'.h0, s'.fr, s'.fl, sr2⟩⟩

/-! ### what is walked -/
def ItOk (Z : Zc) (B : Addr) (J : It) (F : Hp) (ds : List D) : Prop := ∀ F2 H2, Le F F2 → HdOk B F2 H2 → (∀ i, i < ds.length → J.go i H2) ∧ (∀ i, ds.length ≤ i → J.stop i H2) ∧
  ∀ i d, ds[i]? = some d → ∀ x H', J.yld i H2 x H' → ∃ F', Fr B H2 F2 H' F' ∧ Rep Z B F' d x
abbrev WI := En → (List D → Prop) → Prop
def tI (Z : Zc) (w : WI) : TI := fun σ H R => ∃ B H0 F env P, HdOk B F H ∧ SR Z B H0 F H σ env ∧ w env P ∧ ∀ ds J F' H', P ds → Fr B H F H' F' → ItOk Z B J F' ds → R J H'
section
variable {X : Cx} {Z : Zc} {tg e iter : Expr} {w : WE} {ws : WA}
theorem _root_.L2.PI.imp {t t' : TI} (h : PI X tg iter t) (i : ∀ σ H Q, t' σ H Q → t σ H Q) : PI X tg iter t' := ⟨fun pins s σ H Q I q => h.run pins s σ H Q I (i σ H Q q)⟩
/-- a list -/
@[simp] def wIL (w : WE) : WI := fun env P => w env fun d => ∃ ds, d = .lst ds ∧ P ds
@[simp] def wIT (w : WE) : WI := fun env P => w env fun d => ∃ ds, d = .tup ds ∧ P ds
theorem itl_ok {B a : Addr} {F : Hp} {xs : List V} {ds : List D} (K : PySem.W.Frag) (h : F a = some (.lst xs)) (r : Reps Z B F ds xs) : ItOk Z B (Itl K a) F ds := fun F2 H2 le hd => by
  have h2 : SqL K H2 a xs := SqL.of (hd.le _ _ (le _ _ h))
  refine ⟨fun i hi => ?_, fun i hi => ⟨xs, h2, by rw [r.length]; exact hi⟩, fun i d hd' x H' y => ?_⟩
  · have : i < xs.length := by rw [r.length]; exact hi
    exact ⟨xs, xs[i], h2, List.getElem?_eq_getElem this⟩
  · obtain ⟨e, y⟩ := y
    subst e
    obtain ⟨v, e1, r1⟩ := r.get hd'
    have e2 := y xs h2
    rw [e1] at e2
    cases e2
    exact ⟨F2, Fr.refl hd, r1.mono le⟩
theorem itt_ok {B a : Addr} {F : Hp} {xs : List V} {ds : List D} {K : PySem.W.Frag} (h : SqT K F a xs) (r : Reps Z B F ds xs) : ItOk Z B (Itt K a) F ds := fun F2 H2 le hd => by
  have h2 : SqT K H2 a xs := hd.le.sqT (le.sqT h)
  refine ⟨fun i hi => ?_, fun i hi => ⟨xs, h2, by rw [r.length]; exact hi⟩, fun i d hd' x H' y => ?_⟩
  · have : i < xs.length := by rw [r.length]; exact hi
    exact ⟨xs, xs[i], h2, List.getElem?_eq_getElem this⟩
  · obtain ⟨e, y⟩ := y
    subst e
    obtain ⟨v, e1, r1⟩ := r.get hd'
    have e2 := y xs h2
    rw [e1] at e2
    cases e2
    exact ⟨F2, Fr.refl hd, r1.mono le⟩
theorem pd_il (he : PE X e (tE Z .frz w)) : PI X tg e (tI Z (wIL w)) := (pi_list he).imp fun σ H R ⟨B, H0, F, env, P, hd, sr, hw, q⟩ => by
  refine ⟨B, H0, F, env, _, hd, sr, hw, fun d F' H' v p f r => ?_⟩
  obtain ⟨ds, e1, p⟩ := p
  subst e1
  obtain ⟨a, xs, e2, h, rs⟩ := r
  exact ⟨a, e2, ⟨xs, SqL.of (f.hd.le _ _ h)⟩, q ds _ F' H' p f (itl_ok _ h rs)⟩
theorem pd_it (hz : Z.K = X.K) (he : PE X e (tE Z .frz w)) : PI X tg e (tI Z (wIT w)) := (pi_tup he).imp fun σ H R ⟨B, H0, F, env, P, hd, sr, hw, q⟩ => by
  refine ⟨B, H0, F, env, _, hd, sr, hw, fun d F' H' v p f r => ?_⟩
  obtain ⟨ds, e1, p⟩ := p
  subst e1
  obtain ⟨a, xs, e2, h, rs⟩ := r
  rw [hz] at h
  exact ⟨a, e2, ⟨xs, f.hd.le.sqT h⟩, q ds _ F' H' p f (itt_ok h rs)⟩
/-- a list or a tuple -/
@[simp] def wISeq (w : WE) : WI := fun env P => wIL w env P ∨ wIT w env P
theorem pd_iseq (hz : Z.K = X.K) (he : PE X e (tE Z .frz w)) : PI X tg e (tI Z (wISeq w)) := ⟨fun pins s σ H R I ⟨B, H0, F, env, P, hd, sr, hw, q⟩ => by
  rcases hw with hw | hw
  · exact (pd_il he).run pins s σ H R I ⟨B, H0, F, env, P, hd, sr, hw, q⟩
  · exact (pd_it hz he).run pins s σ H R I ⟨B, H0, F, env, P, hd, sr, hw, q⟩⟩
/-- range -/
def rngD (lo : Int) (n : Nat) : List D := (List.range n).map fun (i : Nat) => D.int (lo + i)
theorem itr_ok {B : Addr} {F : Hp} (lo : Int) (n : Nat) : ItOk Z B (Itr lo n) F (rngD lo n) := fun F2 H2 le hd => by
  have hl : (rngD lo n).length = n := by unfold rngD; rw [List.length_map, List.length_range]
  refine ⟨fun i hi => ?_, fun i hi => ?_, fun i d hd' x H' y => ?_⟩
  · rw [hl] at hi; exact hi
  · rw [hl] at hi; exact hi
  · obtain ⟨e, e2⟩ := y
    subst e
    subst e2
    unfold rngD at hd'
    rw [List.getElem?_map] at hd'
    cases h : (List.range n)[i]? with
    | none => rw [h] at hd'; cases hd'
    | some k =>
      rw [h] at hd'
      have hk : k = i := by
        obtain ⟨_, z⟩ := List.getElem?_eq_some_iff.mp h
        rw [List.getElem_range] at z
        exact z.symm
      subst hk
      cases hd'
      exact ⟨F2, Fr.refl hd, rfl⟩
@[simp] def rg1 : List D → (List D → Prop) → Prop
  | [.int j], P => (-(2 ^ 62) ≤ j ∧ j < 2 ^ 62) ∧ P (rngD 0 j.toNat)
  | _, _ => False
@[simp] def rg2 : List D → (List D → Prop) → Prop
  | [.int i, .int j], P => (-(2 ^ 62) ≤ i ∧ i < 2 ^ 62 ∧ -(2 ^ 62) ≤ j ∧ j < 2 ^ 62) ∧ P (rngD i (j - i).toNat)
  | _, _ => False
theorem rg1_ex {ds : List D} {P : List D → Prop} (h : rg1 ds P) : ∃ j : Int, ds = [.int j] ∧ -(2 ^ 62) ≤ j ∧ j < 2 ^ 62 ∧ P (rngD 0 j.toNat) := by
  unfold rg1 at h
  split at h
  · exact ⟨_, rfl, h.1.1, h.1.2, h.2⟩
  · exact h.elim
theorem rg2_ex {ds : List D} {P : List D → Prop} (h : rg2 ds P) : ∃ i j : Int, ds = [.int i, .int j] ∧ (-(2 ^ 62) ≤ i ∧ i < 2 ^ 62 ∧ -(2 ^ 62) ≤ j ∧ j < 2 ^ 62) ∧ P (rngD i (j - i).toNat) := by
  unfold rg2 at h
  split at h
  · exact ⟨_, _, rfl, h⟩
  · exact h.elim
@[simp] def wIR1 (ws : WA) : WI := fun env P => ws env fun ds => rg1 ds P
@[simp] def wIR2 (ws : WA) : WI := fun env P => ws env fun ds => rg2 ds P
theorem RepVs.ints {B : Addr} {F H : Hp} : ∀ {is : List Int} {vs : List V}, RepVs Z B F H (is.map D.int) vs → vs = is.map V.int
  | [], _, r => r
  | i :: is, _, ⟨x, t, e, r1, r2⟩ => by
    rw [e, RepV.int r1, RepVs.ints r2]; rfl
variable {a b : Expr} {p pos : Pos}
theorem pd_ir1 (hg : Gl X "range") (hm : X.mg "range" = none) (ha : PA X [a] (tA Z .view ws)) (hs : starEach [a] X.env = [(false, eval a X.env)] := by rfl) : PI X tg (.Call (.Name "range" p) [a] [] pos) (tI Z (wIR1 ws)) :=
  (pi_range1 hg hm ha hs).imp fun σ H R ⟨B, H0, F, env, P, hd, sr, hw, q⟩ => by
    refine ⟨B, H0, F, env, _, hd, sr, hw, fun ds F' H' vs p f r => ?_⟩
    obtain ⟨j, e, h1, h2, p'⟩ := rg1_ex p
    subst e
    exact ⟨j, RepVs.ints (is := [j]) r, h1, h2, q _ _ F' H' p' f (itr_ok 0 _)⟩
theorem pd_ir2 (hg : Gl X "range") (hm : X.mg "range" = none) (ha : PA X [a, b] (tA Z .view ws)) (hs : starEach [a, b] X.env = [(false, eval a X.env), (false, eval b X.env)] := by rfl) (hs2 : starEach [b] X.env = [(false, eval b X.env)] := by rfl) : PI X tg (.Call (.Name "range" p) [a, b] [] pos) (tI Z (wIR2 ws)) :=
  (pi_range2 hg hm ha hs hs2).imp fun σ H R ⟨B, H0, F, env, P, hd, sr, hw, q⟩ => by
    refine ⟨B, H0, F, env, _, hd, sr, hw, fun ds F' H' vs p f r => ?_⟩
    obtain ⟨i, j, e, h, p'⟩ := rg2_ex p
    subst e
    exact ⟨i, j, RepVs.ints (is := [i, j]) r, h, q _ _ F' H' p' f (itr_ok i _)⟩
/-- range with a step -/
def rngC (lo c : Int) (n : Nat) : List D := (List.range n).map fun (i : Nat) => D.int (lo + (i : Nat) * c)
theorem itc_ok {B : Addr} {F : Hp} (lo c : Int) (n : Nat) : ItOk Z B (Itc lo c n) F (rngC lo c n) := fun F2 H2 le hd => by
  have hl : (rngC lo c n).length = n := by unfold rngC; rw [List.length_map, List.length_range]
  refine ⟨fun i hi => ?_, fun i hi => ?_, fun i d hd' x H' y => ?_⟩
  · rw [hl] at hi; exact hi
  · rw [hl] at hi; exact hi
  · obtain ⟨e, e2⟩ := y
    subst e
    subst e2
    unfold rngC at hd'
    rw [List.getElem?_map] at hd'
    cases h : (List.range n)[i]? with
    | none => rw [h] at hd'; cases hd'
    | some k =>
      rw [h] at hd'
      have hk : k = i := by
        obtain ⟨_, z⟩ := List.getElem?_eq_some_iff.mp h
        rw [List.getElem_range] at z
        exact z.symm
      subst hk
      cases hd'
      exact ⟨F2, Fr.refl hd, rfl⟩
@[simp] def rg3 : List D → (List D → Prop) → Prop
  | [.int i, .int j, .int c], P => ∃ n : Nat, RgC i j c n ∧ P (rngC i c n)
  | _, _ => False
theorem rg3_ex {ds : List D} {P : List D → Prop} (h : rg3 ds P) : ∃ (i j c : Int) (n : Nat), ds = [.int i, .int j, .int c] ∧ RgC i j c n ∧ P (rngC i c n) := by
  unfold rg3 at h
  split at h
  · obtain ⟨n, h⟩ := h
    exact ⟨_, _, _, n, rfl, h⟩
  · exact h.elim
@[simp] def wIR3 (ws : WA) : WI := fun env P => ws env fun ds => rg3 ds P
theorem pd_ir3 {c : Expr} (hg : Gl X "range") (hm : X.mg "range" = none) (ha : PA X [a, b, c] (tA Z .view ws)) (hs : starEach [a, b, c] X.env = (false, eval a X.env) :: starEach [b, c] X.env := by rfl) (hpl : (backTo pos (starEach [b, c] X.env)).any (·.1) = false := by rfl) :
    PI X tg (.Call (.Name "range" p) [a, b, c] [] pos) (tI Z (wIR3 ws)) :=
  (pi_range3 hg hm ha hs hpl).imp fun σ H R ⟨B, H0, F, env, P, hd, sr, hw, q⟩ => by
    refine ⟨B, H0, F, env, _, hd, sr, hw, fun ds F' H' vs p f r => ?_⟩
    obtain ⟨i, j, c, n, e, h, p'⟩ := rg3_ex p
    subst e
    exact ⟨i, j, c, n, RepVs.ints (is := [i, j, c]) r, h, q _ _ F' H' p' f (itc_ok i c n)⟩
end

/-! ### for, while -/
@[simp] def forD (g : WG) (wb : WS) (E : EndsD) : List D → En → Prop
  | [], env => E.nx env
  | d :: ds, env => g d env fun env1 => wb { nx := forD g wb E ds, rt := E.rt, bk := E.nx, ct := forD g wb E ds } env1
@[simp] def wFor (wi : WI) (g : WG) (wb : WS) : WS := fun E env => wi env fun ds => forD g wb E ds env
section
variable {X : Cx} {Z : Zc} {tg iter : Expr} {body : List Stmt} {pos : Pos} {wi : WI} {g : WG} {wb : WS} {is : List Nat}
theorem pd_for (hi : PI X tg iter (tI Z wi)) (hg : PG X tg (tG Z is g)) (hb : PSs X body (tS Z wb)) (hp : PassesOwn (model X.prog X.w) X.A X.env X.xe) (hc : X.calm = true) (hs : ∀ x, foldedSetIterable iter X.env x = pure x := by intro _; rfl) : PS X (.For tg iter body [] pos) (tS Z (wFor wi g wb)) :=
  (ps_for hp hc hi hg hb hs).imp fun T σ H ⟨B, H0, F0, Fl, F, env, E, s, hw, wt⟩ => by
    refine ⟨B, _, F, env, _, s.fr.hd, s.sr, hw, fun ds J F1 H1 p f ok => ?_⟩
    have s1 := s.step f
    refine ⟨fun i m σ' H' => m = ds.length - i ∧ i ≤ ds.length ∧ ∃ F' env', Sit Z B H0 F0 F1 F' H' σ' env' ∧ forD g wb E (ds.drop i) env', ⟨ds.length, rfl, Nat.zero_le _, F1, env, ⟨s1.h0, s1.fr, Le.refl _, s1.sr⟩, p⟩, ?_⟩
    rintro i m σ' H' ⟨rfl, hi, F', env', s', q⟩
    obtain ⟨go, stop, yld⟩ := ok F' H' s'.fl s'.fr.hd
    have fl := s1.fl
    by_cases hlt : i < ds.length
    · refine .inr ⟨go i hlt, fun σ2 H2 => ∃ F2 env2, Sit Z B H0 F0 F1 F2 H2 σ2 env2 ∧ forD g wb E (ds.drop (i + 1)) env2, ?_, ?_⟩
      · rintro σ2 H2 ⟨F2, env2, s2, q2⟩
        exact ⟨_, by omega, rfl, hlt, F2, env2, s2, q2⟩
      · intro x H2 y
        obtain ⟨F2, f2, r2⟩ := yld i ds[i] (List.getElem?_eq_getElem hlt) x H2 y
        have s2 := s'.step f2
        rw [List.drop_eq_getElem_cons hlt] at q
        refine ⟨B, _, F2, env', _, _, s2.fr.hd, s2.sr, r2, q, fun env3 σ3 q3 sr3 _ => ?_⟩
        refine ⟨B, H0, F0, F1, F2, env3, _, ⟨s2.h0, s2.fr, s2.fl, sr3⟩, q3, ⟨fun env4 σ4 F4 H4 q4 s4 => ⟨F4, env4, s4, q4⟩, wt.rt, fun env4 σ4 F4 H4 q4 s4 => ?_, fun env4 σ4 F4 H4 q4 s4 => ⟨F4, env4, s4, q4⟩⟩⟩
        exact wt.nx env4 σ4 F4 H4 q4 ⟨s4.h0, s4.fr, fl.trans s4.fl, s4.sr⟩
    · have e : i = ds.length := by omega
      subst e
      rw [List.drop_length] at q
      exact .inl ⟨stop _ (Nat.le_refl _), wt.nx env' σ' F' H' q ⟨s'.h0, s'.fr, fl.trans s'.fl, s'.sr⟩⟩
@[simp] def wWhile (wt : WT) (wb : WS) : WS := fun E env => ∃ (I : En → Prop) (μ : En → Nat), I env ∧ ∀ env, I env → wt env fun b =>
  if b = true then wb { nx := fun e' => I e' ∧ μ e' < μ env, rt := E.rt, bk := E.nx, ct := fun e' => I e' ∧ μ e' < μ env } env else E.nx env
theorem pd_while {c : Expr} {wc : WT} (hc : PT X c (tT Z wc)) (hb : PSs X body (tS Z wb)) (hp : PassesOwn (model X.prog X.w) X.A X.env X.xe) : PS X (.While c body [] pos) (tS Z (wWhile wc wb)) :=
  (ps_while hp hc hb).imp fun T σ H ⟨B, H0, F0, Fl, F, env, E, s, ⟨I, μ, hi, turn⟩, wt⟩ => by
    refine ⟨fun m σ' H' => ∃ F' env', Sit Z B H0 F0 Fl F' H' σ' env' ∧ I env' ∧ μ env' = m, ⟨_, F, env, s, hi, rfl⟩, ?_⟩
    rintro m σ' H' ⟨F', env', s', hi', rfl⟩
    refine tT_in s' (turn env' hi') fun b F2 H2 p s2 => ?_
    cases b with
    | true =>
      rw [if_pos rfl] at p ⊢
      refine ⟨fun σ3 H3 => ∃ F3 env3, Sit Z B H0 F0 Fl F3 H3 σ3 env3 ∧ I env3 ∧ μ env3 < μ env', ?_, ?_⟩
      · rintro σ3 H3 ⟨F3, env3, s3, i3, l3⟩
        exact ⟨μ env3, l3, F3, env3, s3, i3, rfl⟩
      · exact ⟨B, H0, F0, Fl, F2, env', _, s2, p, ⟨fun env4 σ4 F4 H4 q4 s4 => ⟨F4, env4, s4, q4⟩, wt.rt, fun env4 σ4 F4 H4 q4 s4 => wt.nx env4 σ4 F4 H4 q4 s4, fun env4 σ4 F4 H4 q4 s4 => ⟨F4, env4, s4, q4⟩⟩⟩
    | false =>
      rw [if_neg (by decide)] at p ⊢
      exact wt.nx env' σ' F2 H2 p s2
end
end DL

namespace DL
open PySem PySem.Spec PyProof.Rows L2

@[simp] def wipeE (env : En) : List Nat → En
  | [] => env
  | v :: vs => (wipeE env vs).set v .no
section
variable {Z : Zc} {B : Addr} {H F : Hp} {H0 : Addr → Prop} {σ : L2.St} {env : En}
theorem SR.setNo (s : SR Z B H0 F H σ env) (i : Nat) : SR Z B H0 F H (σ.set i none) (env.set i .no) := by
  obtain ⟨ad, inj, q⟩ := s.ad
  have key : ∀ (k : Nat) (s : Sl), (env.set i .no)[k]? = some s → s.isOwn → env[k]? = some s ∧ k ≠ i := fun k s e o => by
    by_cases h : i = k
    · subst h
      by_cases hl : i < env.length
      · rw [List.getElem?_set_self hl] at e; cases e; exact o.elim
      · rw [List.getElem?_eq_none (by simpa using hl)] at e; cases e
    · rw [List.getElem?_set_ne h] at e; exact ⟨e, fun z => h z.symm⟩
  refine ⟨by rw [List.length_set, List.length_set]; exact s.len, ad, fun j k s t e1 e2 o1 o2 e => inj j k s t (key j s e1 o1).1 (key k t e2 o2).1 o1 o2 e, fun j t e => ?_⟩
  by_cases h : i = j
  · subst h
    by_cases hl : i < env.length
    · rw [List.getElem?_set_self hl] at e; cases e
      trivial
    · rw [List.getElem?_eq_none (by simpa using hl)] at e; cases e
  · rw [List.getElem?_set_ne h] at e ⊢
    exact q j t e
/-- only what stands at H is the def's own -/
theorem SR.narrow (s : SR Z B H0 F H σ env) : SR Z B (fun a => H0 a ∧ H a ≠ none) F H σ env := by
  obtain ⟨ad, inj, q⟩ := s.ad
  refine ⟨s.len, ad, inj, fun j t e => ?_⟩
  have z := q j t e
  cases t with
  | no => trivial
  | val d => exact z
  | own d =>
    obtain ⟨e1, e2, e3, e4, o, e5, t⟩ := z
    exact ⟨e1, ⟨e2, by rw [e5]; simp⟩, e3, e4, o, e5, t⟩
/-- another object is written -/
theorem SR.write (s : SR Z B H0 F H σ env) {a : Addr} {o : HO} (h : ¬ H0 a) : SR Z B H0 F (upd H a o) σ env := by
  obtain ⟨ad, inj, q⟩ := s.ad
  refine ⟨s.len, ad, inj, fun j t e => ?_⟩
  have z := q j t e
  cases t with
  | no => trivial
  | val d => exact z
  | own d =>
    obtain ⟨e1, e2, e3, e4, o, e5, t⟩ := z
    exact ⟨e1, e2, e3, e4, o, by rw [upd_ne fun x => h (by rw [← x]; exact e2)]; exact e5, t⟩
theorem SR.wipe (s : SR Z B H0 F H σ env) : ∀ vs : List Nat, SR Z B H0 F H (L2.wipe σ vs) (wipeE env vs)
  | [] => s
  | v :: vs => (SR.wipe s vs).setNo v
theorem wipe_get (σ : L2.St) (j : Nat) : ∀ vs : List Nat, (L2.wipe σ vs)[j]? = if j ∈ vs then (σ[j]?).map (fun _ => none) else σ[j]?
  | [] => by simp [L2.wipe]
  | v :: vs => by
    have ih := wipe_get σ j vs
    unfold L2.wipe
    by_cases h : v = j
    · subst h
      rw [if_pos (by simp)]
      by_cases hl : v < σ.length
      · rw [List.getElem?_set_self (by rw [wipe_length]; exact hl), List.getElem?_eq_getElem hl]; rfl
      · rw [List.getElem?_eq_none (by rw [List.length_set, wipe_length]; omega), List.getElem?_eq_none (by omega)]; rfl
    · rw [List.getElem?_set_ne h, ih]
      by_cases hm : j ∈ vs
      · rw [if_pos hm, if_pos (by simp [hm])]
      · rw [if_neg hm, if_neg (by simp [hm]; exact fun z => h z.symm)]
theorem wipe_off {σ σ' : L2.St} {is vs : List Nat} (o : Off is (L2.wipe σ vs) σ') (h : ∀ i ∈ is, i ∈ vs) : L2.wipe σ' vs = L2.wipe σ vs := by
  apply List.ext_getElem?
  intro j
  rw [wipe_get, wipe_get]
  have hl : σ'.length = σ.length := by rw [o.1, wipe_length]
  by_cases hj : j ∈ vs
  · rw [if_pos hj, if_pos hj]
    by_cases hlt : j < σ.length
    · rw [List.getElem?_eq_getElem hlt, List.getElem?_eq_getElem (by rw [hl]; exact hlt)]; rfl
    · rw [List.getElem?_eq_none (by omega), List.getElem?_eq_none (by omega)]
  · rw [if_neg hj, if_neg hj, o.2 j fun z => hj (h j z), wipe_get, if_neg hj]
end
/-- the turns of a comprehension: acc what is made so far -/
@[simp] def lcD (g : WG) (wt : WT) (we : WE) (env : En) (K : List D → Prop) : List D → List D → Prop
  | [], acc => K acc
  | d :: ds, acc => g d env fun env1 => wt env1 fun b => if b = true then we env1 fun x => acc.length < sizeLine ∧ lcD g wt we env K ds (acc ++ [x]) else lcD g wt we env K ds acc
@[simp] def wLc (wi : WI) (g : WG) (wt : WT) (we : WE) (vs : List Nat) : WE := fun env P => wi env fun ds => lcD g wt we (wipeE env vs) (fun acc => P (.lst acc)) ds []
@[simp] def wYes : WT := fun _ P => P true
/-- .. with two for clauses -/
@[simp] def lcD2 (g : WG) (wt : WT) (wi1 : WI) (g1 : WG) (wt1 : WT) (we : WE) (vs1 : List Nat) (env : En) (K : List D → Prop) : List D → List D → Prop
  | [], acc => K acc
  | d :: ds, acc => g d env fun env1 => wt env1 fun b => if b = true then wi1 env1 fun es => lcD g1 wt1 we (wipeE env1 vs1) (fun acc' => lcD2 g wt wi1 g1 wt1 we vs1 env K ds acc') es acc else lcD2 g wt wi1 g1 wt1 we vs1 env K ds acc
@[simp] def wLc2 (wi : WI) (g : WG) (wt : WT) (wi1 : WI) (g1 : WG) (wt1 : WT) (we : WE) (vs vs1 : List Nat) : WE := fun env P => wi env fun ds => lcD2 g wt wi1 g1 wt1 we vs1 (wipeE env vs) (fun acc => P (.lst acc)) ds []
section
variable {X : Cx} {Z : Zc}
theorem _root_.L2.PTs.imp {ifs : List Expr} {t t' : TT} (h : PTs X ifs t) (i : ∀ σ H Q, t' σ H Q → t σ H Q) : PTs X ifs t' := ⟨fun pins s σ H Q I q => h.run pins s σ H Q I (i σ H Q q)⟩
theorem pd_yes : PTs X [] (tT Z wYes) := pts_nil.imp fun σ H Q ⟨B, H0, F, env, P, hd, sr, hw, q⟩ => q true F H hw (Fr.refl hd)
theorem pd_if1 {c : Expr} {wt : WT} (h : PT X c (tT Z wt)) : PTs X [c] (tT Z wt) := pts_one h
/-- where a comprehension's loop stands: from (H1, F1), the new list at D -/
structure Lc (Z : Zc) (B : Addr) (D : Addr) (H1 F1 H F : Hp) (acc : List DL.D) : Prop where
  fr : Fr B H1 F1 H F
  lst : ∃ xs, H D = some (.lst xs) ∧ Reps Z B F acc xs
  new : F D = none
theorem Lc.step {B D : Addr} {H1 F1 H F H' F' : Hp} {acc : List DL.D} (h1 : HdOk B F1 H1) (hD : H1 D = none) (l : Lc Z B D H1 F1 H F acc) (f : Fr B H F H' F') : Lc Z B D H1 F1 H' F' acc := by
  obtain ⟨xs, e, r⟩ := l.lst
  exact ⟨Fr.trans h1 l.fr f, ⟨xs, f.keep D _ (h1.newB hD) e, r.mono (f.leF l.fr.hd)⟩, by rw [f.new D (by rw [e]; simp)]; exact l.new⟩
theorem Lc.put {B D : Addr} {H1 F1 H F : Hp} {acc : List DL.D} (h1 : HdOk B F1 H1) (hD : H1 D = none) (l : Lc Z B D H1 F1 H F acc) {xs : List V} {d : DL.D} {y : V} (e : H D = some (.lst xs)) (r : Rep Z B F d y) : Lc Z B D H1 F1 (upd H D (.lst (xs ++ [y]))) F (acc ++ [d]) := by
  obtain ⟨xs', e', rs⟩ := l.lst
  rw [e] at e'
  cases e'
  exact ⟨l.fr.put hD (h1.newB hD) l.new, ⟨_, upd_same, rs.append (Reps.cons r Reps.nil)⟩, l.new⟩
theorem lc_D {wi : WI} {g : WG} {wt : WT} {we : WE} {is : List Nat} {own : List (Str × Nat)} (his : ∀ i ∈ is, i ∈ own.map (·.2)) : ∀ σ H Q, tE Z .new (wLc wi g wt we (own.map (·.2))) σ H Q → tLc (tI Z wi) (tG Z is g) (tT Z wt) (tE Z .frz we) (own.map (·.2)) σ H Q := fun σ H Q ⟨B, H0, F, env, P, hd, sr, hw, q⟩ => by
    refine ⟨B, H0, F, env, _, hd, sr, hw, fun ds J F1 H1 p f iok => ?_⟩
    intro D hD
    have sr1 := (sr.step hd f).wipe (own.map (·.2))
    have l0 : Lc Z B D H1 F1 (upd H1 D (.lst [])) F1 [] := ⟨Fr.laidN f.hd hD, ⟨[], upd_same, Reps.nil⟩, f.hd.noneF hD⟩
    refine ⟨fun i m H' => m = ds.length - i ∧ i ≤ ds.length ∧ ∃ F' acc, Lc Z B D H1 F1 H' F' acc ∧ lcD g wt we (wipeE env (own.map (·.2))) (fun acc => P (.lst acc)) (ds.drop i) acc, ⟨ds.length, rfl, Nat.zero_le _, F1, [], l0, p⟩, ?_⟩
    rintro i m H' ⟨rfl, hi, F', acc, l, k⟩
    obtain ⟨go, stop, yld⟩ := iok F' H' (l.fr.leF f.hd) l.fr.hd
    by_cases hlt : i < ds.length
    · refine .inr ⟨go i hlt, fun H2 => ∃ F2 acc2, Lc Z B D H1 F1 H2 F2 acc2 ∧ lcD g wt we (wipeE env (own.map (·.2))) (fun acc => P (.lst acc)) (ds.drop (i + 1)) acc2, ?_, ?_⟩
      · rintro H2 ⟨F2, acc2, l2, k2⟩
        exact ⟨_, by omega, rfl, hlt, F2, acc2, l2, k2⟩
      · intro x H2 y
        obtain ⟨F2, f2, r2⟩ := yld i ds[i] (List.getElem?_eq_getElem hlt) x H2 y
        have l2 := l.step f.hd hD f2
        rw [List.drop_eq_getElem_cons hlt] at k
        refine ⟨B, H0, F2, _, _, _, f2.hd, sr1.step f.hd l2.fr, r2, k, fun env3 σ3 k3 sr3 o3 => ⟨wipe_off o3 his, ?_⟩⟩
        refine ⟨B, H0, F2, env3, _, f2.hd, sr3, k3, fun b F4 H4 k4 f4 => ?_⟩
        have l4 := l2.step f.hd hD f4
        cases b with
        | true =>
          rw [if_pos rfl] at k4
          refine ⟨B, H0, F4, env3, _, f4.hd, sr3.step f2.hd f4, k4, fun d F5 H5 v k5 f5 r5 => ?_⟩
          have l5 := l4.step f.hd hD f5
          obtain ⟨xs, e5, rs⟩ := l5.lst
          exact ⟨xs, e5, by rw [rs.length]; exact k5.1, F5, _, l5.put f.hd hD e5 r5, k5.2⟩
        | false =>
          rw [if_neg (by decide)] at k4
          exact ⟨F4, acc, l4, k4⟩
    · have e : i = ds.length := by omega
      subst e
      rw [List.drop_length] at k
      obtain ⟨xs, e5, rs⟩ := l.lst
      exact .inl ⟨stop _ (Nat.le_refl _), q _ F' H' _ k (Fr.trans hd f l.fr) (Res.back hd f ⟨D, _, rfl, hD, l.new, e5, xs, rfl, rs⟩)⟩
theorem pd_lc {elt tg iter : Expr} {ifs : List Expr} {scope : Scope} {own : List (Str × Nat)} {pos : Pos} {wi : WI} {g : WG} {wt : WT} {we : WE} {is : List Nat} (hc : X.calm = true) (hN : X.N.Nodup) (hi : PI X tg iter (tI Z wi)) (ok : BlkOk X.N X.env.scope scope own)
    (hg : ∀ (s : Shared) (H : Hp) (C : Addr) (cl : List (Str × Addr)) (fp : List Addr), PG (X.blk s H scope (compEnvC scope cl C X.env) fp) tg (tG Z is g)) (ht : ∀ (s : Shared) (H : Hp) (C : Addr) (cl : List (Str × Addr)) (fp : List Addr), PTs (X.blk s H scope (compEnvC scope cl C X.env) fp) ifs (tT Z wt))
    (he : ∀ (s : Shared) (H : Hp) (C : Addr) (cl : List (Str × Addr)) (fp : List Addr), PE (X.blk s H scope (compEnvC scope cl C X.env) fp) elt (tE Z .frz we)) (his : ∀ i ∈ is, i ∈ own.map (·.2)) (hs : ∀ x, foldedSetIterable iter X.env x = pure x := by intro _; rfl) :
    PE X (.ListComp elt [⟨tg, iter, ifs, 0⟩] scope pos) (tE Z .new (wLc wi g wt we (own.map (·.2)))) :=
  (pe_lc hc hN hi ok hg ht he hs).imp (lc_D his)
theorem pd_setLc {i : Nat} {y : Str} {py spos : Pos} {elt tg iter : Expr} {ifs : List Expr} {scope : Scope} {own : List (Str × Nat)} {pos : Pos} {wi : WI} {g : WG} {wt : WT} {we : WE} {is : List Nat} (hc : X.calm = true) (hN : X.N.Nodup) (hy : X.N[i]? = some y) (hyl : X.env.scope.names.lookup y = some .local) (hsw : swapsWith (.ListComp elt [⟨tg, iter, ifs, 0⟩] scope pos) (some (.Name y py)) spos.line X.env = pure true) (hi : PI X tg iter (tI Z wi)) (ok : BlkOk X.N X.env.scope scope own)
    (hg : ∀ (s : Shared) (H : Hp) (C : Addr) (cl : List (Str × Addr)) (fp : List Addr), PG (X.blk s H scope (compEnvC scope cl C X.env) fp) tg (tG Z is g)) (ht : ∀ (s : Shared) (H : Hp) (C : Addr) (cl : List (Str × Addr)) (fp : List Addr), PTs (X.blk s H scope (compEnvC scope cl C X.env) fp) ifs (tT Z wt))
    (he : ∀ (s : Shared) (H : Hp) (C : Addr) (cl : List (Str × Addr)) (fp : List Addr), PE (X.blk s H scope (compEnvC scope cl C X.env) fp) elt (tE Z .frz we)) (his : ∀ i ∈ is, i ∈ own.map (·.2)) (hs : ∀ x, foldedSetIterable iter X.env x = pure x := by intro _; rfl) :
    PS X (.Assign [.Name y py] (.ListComp elt [⟨tg, iter, ifs, 0⟩] scope pos) spos) (tS Z (wSet i (wLc wi g wt we (own.map (·.2))))) :=
  (ps_setLc hc hN hy hyl hsw hi ok hg ht he hs).imp fun T σ H ⟨B, H0, F0, Fl, F, env, E, s, hw, wt⟩ => by
    refine lc_D his _ _ _ (tE_in s hw fun d F' H' v p f s' r => ?_)
    obtain ⟨F2, f2, r2⟩ := Res.freeze f s.fr.hd r
    exact wt.nx _ _ F2 H' p ((s.step f2).set i r2)
theorem lc_D2 {wi wi1 : WI} {g g1 : WG} {wt wt1 : WT} {we : WE} {is is1 : List Nat} {own : List (Str × Nat)} {vs1 : List Nat} (his : ∀ i ∈ is, i ∈ own.map (·.2)) (his1 : ∀ i ∈ is1, i ∈ vs1) : ∀ σ H Q, tE Z .new (wLc2 wi g wt wi1 g1 wt1 we (own.map (·.2)) vs1) σ H Q → tLc2 (tI Z wi) (tG Z is g) (tT Z wt) (tI Z wi1) (tG Z is1 g1) (tT Z wt1) (tE Z .frz we) (own.map (·.2)) vs1 σ H Q := fun σ H Q ⟨B, H0, F, env, P, hd, sr, hw, q⟩ => by
    refine ⟨B, H0, F, env, _, hd, sr, hw, fun ds J F1 H1 p f iok => ?_⟩
    intro D hD
    have sr1 := (sr.step hd f).narrow.wipe (own.map (·.2))
    have l0 : Lc Z B D H1 F1 (upd H1 D (.lst [])) F1 [] := ⟨Fr.laidN f.hd hD, ⟨[], upd_same, Reps.nil⟩, f.hd.noneF hD⟩
    refine ⟨fun i m H' => m = ds.length - i ∧ i ≤ ds.length ∧ ∃ F' acc, Lc Z B D H1 F1 H' F' acc ∧ lcD2 g wt wi1 g1 wt1 we vs1 (wipeE env (own.map (·.2))) (fun acc => P (.lst acc)) (ds.drop i) acc, ⟨ds.length, rfl, Nat.zero_le _, F1, [], l0, p⟩, ?_⟩
    rintro i m H' ⟨rfl, hi, F', acc, l, k⟩
    obtain ⟨go, stop, yld⟩ := iok F' H' (l.fr.leF f.hd) l.fr.hd
    by_cases hlt : i < ds.length
    · refine .inr ⟨go i hlt, fun H2 => ∃ F2 acc2, Lc Z B D H1 F1 H2 F2 acc2 ∧ lcD2 g wt wi1 g1 wt1 we vs1 (wipeE env (own.map (·.2))) (fun acc => P (.lst acc)) (ds.drop (i + 1)) acc2, ?_, ?_⟩
      · rintro H2 ⟨F2, acc2, l2, k2⟩
        exact ⟨_, by omega, rfl, hlt, F2, acc2, l2, k2⟩
      · intro x H2 y
        obtain ⟨F2, f2, r2⟩ := yld i ds[i] (List.getElem?_eq_getElem hlt) x H2 y
        have l2 := l.step f.hd hD f2
        rw [List.drop_eq_getElem_cons hlt] at k
        refine ⟨B, _, F2, _, _, _, f2.hd, sr1.step f.hd l2.fr, r2, k, fun env3 σ3 k3 sr3 o3 => ⟨wipe_off o3 his, ?_⟩⟩
        refine ⟨B, _, F2, env3, _, f2.hd, sr3, k3, fun b F4 H4 k4 f4 => ?_⟩
        have l4 := l2.step f.hd hD f4
        cases b with
        | true =>
          rw [if_pos rfl] at k4
          refine ⟨B, _, F4, env3, _, f4.hd, sr3.step f2.hd f4, k4, fun es J1 F5 H5 p5 f5 iok1 => ?_⟩
          have sr5 := ((sr3.step f2.hd f4).step f4.hd f5).wipe vs1
          have l5 := l4.step f.hd hD f5
          refine ⟨fun j m H' => m = es.length - j ∧ j ≤ es.length ∧ ∃ F' acc, Le F5 F' ∧ Lc Z B D H1 F1 H' F' acc ∧ SR Z B (fun a => H0 a ∧ H1 a ≠ none) F' H' (L2.wipe σ3 vs1) (wipeE env3 vs1) ∧ lcD g1 wt1 we (wipeE env3 vs1) (fun acc' => lcD2 g wt wi1 g1 wt1 we vs1 (wipeE env (own.map (·.2))) (fun acc => P (.lst acc)) (ds.drop (i + 1)) acc') (es.drop j) acc,
            ⟨es.length, rfl, Nat.zero_le _, F5, acc, Le.refl _, l5, sr5, p5⟩, ?_⟩
          rintro j m H6 ⟨rfl, hj, F6, acc6, f6, l6, sr6, k6⟩
          obtain ⟨go1, stop1, yld1⟩ := iok1 F6 H6 f6 l6.fr.hd
          by_cases hjt : j < es.length
          · refine .inr ⟨go1 j hjt, fun H' => ∃ F' acc, Le F5 F' ∧ Lc Z B D H1 F1 H' F' acc ∧ SR Z B (fun a => H0 a ∧ H1 a ≠ none) F' H' (L2.wipe σ3 vs1) (wipeE env3 vs1) ∧ lcD g1 wt1 we (wipeE env3 vs1) (fun acc' => lcD2 g wt wi1 g1 wt1 we vs1 (wipeE env (own.map (·.2))) (fun acc => P (.lst acc)) (ds.drop (i + 1)) acc') (es.drop (j + 1)) acc, ?_, ?_⟩
            · rintro H7 ⟨F7, acc7, f7, l7, sr7, k7⟩
              exact ⟨_, by omega, rfl, hjt, F7, acc7, f7, l7, sr7, k7⟩
            · intro x H7 y
              obtain ⟨F7, f7, r7⟩ := yld1 j es[j] (List.getElem?_eq_getElem hjt) x H7 y
              have l7 := l6.step f.hd hD f7
              have sr7 := sr6.step l6.fr.hd f7
              rw [List.drop_eq_getElem_cons hjt] at k6
              refine ⟨B, _, F7, _, _, _, f7.hd, sr7, r7, k6, fun env8 σ8 k8 sr8 o8 => ⟨wipe_off o8 his1, ?_⟩⟩
              refine ⟨B, _, F7, env8, _, f7.hd, sr8, k8, fun b F9 H9 k9 f9 => ?_⟩
              have l9 := l7.step f.hd hD f9
              have f59 : Le F5 F9 := f6.trans ((f7.leF l6.fr.hd).trans (f9.leF f7.hd))
              have srw9 := sr7.step f7.hd f9
              cases b with
              | true =>
                rw [if_pos rfl] at k9
                refine ⟨B, _, F9, env8, _, f9.hd, sr8.step f7.hd f9, k9, fun d F10 H10 v k10 f10 r10 => ?_⟩
                have l10 := l9.step f.hd hD f10
                obtain ⟨xs, e10, rs⟩ := l10.lst
                have sr10 := srw9.step f9.hd f10
                have f510 : Le F5 F10 := f59.trans (f10.leF f9.hd)
                have lf := l10.put f.hd hD e10 r10
                refine ⟨xs, e10, by rw [rs.length]; exact k10.1, F10, _, f510, lf, sr10.write fun z => z.2 hD, k10.2⟩
              | false =>
                rw [if_neg (by decide)] at k9
                exact ⟨F9, acc6, f59, l9, srw9, k9⟩
          · have e : j = es.length := by omega
            subst e
            rw [List.drop_length] at k6
            exact .inl ⟨stop1 _ (Nat.le_refl _), F6, acc6, l6, k6⟩
        | false =>
          rw [if_neg (by decide)] at k4
          exact ⟨F4, acc, l4, k4⟩
    · have e : i = ds.length := by omega
      subst e
      rw [List.drop_length] at k
      obtain ⟨xs, e5, rs⟩ := l.lst
      exact .inl ⟨stop _ (Nat.le_refl _), q _ F' H' _ k (Fr.trans hd f l.fr) (Res.back hd f ⟨D, _, rfl, hD, l.new, e5, xs, rfl, rs⟩)⟩
theorem pd_lc2 {elt tg iter tg1 iter1 : Expr} {ifs ifs1 : List Expr} {scope : Scope} {own : List (Str × Nat)} {vs1 : List Nat} {pos : Pos} {wi wi1 : WI} {g g1 : WG} {wt wt1 : WT} {we : WE} {is is1 : List Nat} (hc : X.calm = true) (hN : X.N.Nodup) (hi : PI X tg iter (tI Z wi)) (ok : BlkOk X.N X.env.scope scope own) (hv : ∀ i ∈ vs1, i ∈ own.map (·.2))
    (hg : ∀ (s : Shared) (H : Hp) (C : Addr) (cl : List (Str × Addr)) (fp : List Addr), PG (X.blk s H scope (compEnvC scope cl C X.env) fp) tg (tG Z is g)) (ht : ∀ (s : Shared) (H : Hp) (C : Addr) (cl : List (Str × Addr)) (fp : List Addr), PTs (X.blk s H scope (compEnvC scope cl C X.env) fp) ifs (tT Z wt))
    (hi1 : ∀ (s : Shared) (H : Hp) (C : Addr) (cl : List (Str × Addr)) (fp : List Addr), PI (X.blk s H scope (compEnvC scope cl C X.env) fp) tg1 iter1 (tI Z wi1))
    (hg1 : ∀ (s : Shared) (H : Hp) (C : Addr) (cl : List (Str × Addr)) (fp : List Addr), PG (X.blk s H scope (compEnvC scope cl C X.env) fp) tg1 (tG Z is1 g1)) (ht1 : ∀ (s : Shared) (H : Hp) (C : Addr) (cl : List (Str × Addr)) (fp : List Addr), PTs (X.blk s H scope (compEnvC scope cl C X.env) fp) ifs1 (tT Z wt1))
    (he : ∀ (s : Shared) (H : Hp) (C : Addr) (cl : List (Str × Addr)) (fp : List Addr), PE (X.blk s H scope (compEnvC scope cl C X.env) fp) elt (tE Z .frz we)) (his : ∀ i ∈ is, i ∈ own.map (·.2)) (his1 : ∀ i ∈ is1, i ∈ vs1) (hs : ∀ x, foldedSetIterable iter X.env x = pure x := by intro _; rfl) (hs1 : ∀ env x, foldedSetIterable iter1 env x = pure x := by intro _ _; rfl) :
    PE X (.ListComp elt [⟨tg, iter, ifs, 0⟩, ⟨tg1, iter1, ifs1, 0⟩] scope pos) (tE Z .new (wLc2 wi g wt wi1 g1 wt1 we (own.map (·.2)) vs1)) :=
  (pe_lc2 hc hN hi ok hv hg ht hi1 hg1 ht1 he hs hs1).imp (lc_D2 his his1)
theorem pd_setLc2 {i : Nat} {y : Str} {py spos : Pos} {elt tg iter tg1 iter1 : Expr} {ifs ifs1 : List Expr} {scope : Scope} {own : List (Str × Nat)} {vs1 : List Nat} {pos : Pos} {wi wi1 : WI} {g g1 : WG} {wt wt1 : WT} {we : WE} {is is1 : List Nat} (hc : X.calm = true) (hN : X.N.Nodup) (hy : X.N[i]? = some y) (hyl : X.env.scope.names.lookup y = some .local) (hsw : swapsWith (.ListComp elt [⟨tg, iter, ifs, 0⟩, ⟨tg1, iter1, ifs1, 0⟩] scope pos) (some (.Name y py)) spos.line X.env = pure true) (hi : PI X tg iter (tI Z wi)) (ok : BlkOk X.N X.env.scope scope own) (hv : ∀ i ∈ vs1, i ∈ own.map (·.2))
    (hg : ∀ (s : Shared) (H : Hp) (C : Addr) (cl : List (Str × Addr)) (fp : List Addr), PG (X.blk s H scope (compEnvC scope cl C X.env) fp) tg (tG Z is g)) (ht : ∀ (s : Shared) (H : Hp) (C : Addr) (cl : List (Str × Addr)) (fp : List Addr), PTs (X.blk s H scope (compEnvC scope cl C X.env) fp) ifs (tT Z wt))
    (hi1 : ∀ (s : Shared) (H : Hp) (C : Addr) (cl : List (Str × Addr)) (fp : List Addr), PI (X.blk s H scope (compEnvC scope cl C X.env) fp) tg1 iter1 (tI Z wi1))
    (hg1 : ∀ (s : Shared) (H : Hp) (C : Addr) (cl : List (Str × Addr)) (fp : List Addr), PG (X.blk s H scope (compEnvC scope cl C X.env) fp) tg1 (tG Z is1 g1)) (ht1 : ∀ (s : Shared) (H : Hp) (C : Addr) (cl : List (Str × Addr)) (fp : List Addr), PTs (X.blk s H scope (compEnvC scope cl C X.env) fp) ifs1 (tT Z wt1))
    (he : ∀ (s : Shared) (H : Hp) (C : Addr) (cl : List (Str × Addr)) (fp : List Addr), PE (X.blk s H scope (compEnvC scope cl C X.env) fp) elt (tE Z .frz we)) (his : ∀ i ∈ is, i ∈ own.map (·.2)) (his1 : ∀ i ∈ is1, i ∈ vs1) (hs : ∀ x, foldedSetIterable iter X.env x = pure x := by intro _; rfl) (hs1 : ∀ env x, foldedSetIterable iter1 env x = pure x := by intro _ _; rfl) :
    PS X (.Assign [.Name y py] (.ListComp elt [⟨tg, iter, ifs, 0⟩, ⟨tg1, iter1, ifs1, 0⟩] scope pos) spos) (tS Z (wSet i (wLc2 wi g wt wi1 g1 wt1 we (own.map (·.2)) vs1))) :=
  (ps_setLc2 hc hN hy hyl hsw hi ok hv hg ht hi1 hg1 ht1 he hs hs1).imp fun T σ H ⟨B, H0, F0, Fl, F, env, E, s, hw, wt⟩ => by
    refine lc_D2 his his1 _ _ _ (tE_in s hw fun d F' H' v p f s' r => ?_)
    obtain ⟨F2, f2, r2⟩ := Res.freeze f s.fr.hd r
    exact wt.nx _ _ F2 H' p ((s.step f2).set i r2)
end
end DL

namespace DL
open PySem PySem.Spec PyProof.Rows L2
section
variable {Z : Zc} {X : Cx} {B : Addr} {F H : Hp}

/-! ### ints -/
@[simp] def wI (C : Int → Int → Prop) (g : Int → Int → D) : W2
  | .int i, .int j, P => C i j ∧ P (g i j)
  | _, _, _ => False
@[simp] def wI0 (g : Int → Int → D) : W2
  | .int i, .int j, P => P (g i j)
  | _, _, _ => False
theorem opd_I {C : Int → Int → Prop} {g : Int → Int → D} {gv : Int → Int → V} (hg : ∀ (B : Addr) (F : Hp) (i j : Int), Rep Z B F (g i j) (gv i j)) : OpD Z .frz (rI C gv) (wI C g) := by
  intro B F H d1 d2 v1 v2 P Q hd r1 r2 w q
  cases d1 with
  | int i =>
    cases d2 with
    | int j => exact ⟨i, j, r1.int, r2.int, w.1, q _ F H _ w.2 (Fr.refl hd) (hg B F i j)⟩
    | _ => exact w.elim
  | _ => exact w.elim
theorem opd_I0 {g : Int → Int → D} {gv : Int → Int → V} (hg : ∀ (B : Addr) (F : Hp) (i j : Int), Rep Z B F (g i j) (gv i j)) : OpD Z .frz (rI0 gv) (wI0 g) := by
  intro B F H d1 d2 v1 v2 P Q hd r1 r2 w q
  cases d1 with
  | int i =>
    cases d2 with
    | int j => exact ⟨i, j, r1.int, r2.int, q _ F H _ w (Fr.refl hd) (hg B F i j)⟩
    | _ => exact w.elim
  | _ => exact w.elim
abbrev aAdd : W2 := wI0 fun i j => .int (i + j)
abbrev aSub : W2 := wI0 fun i j => .int (i - j)
abbrev aMul : W2 := wI CMulW fun i j => .int (i * j)
abbrev aDiv : W2 := wI CDivW fun i j => .int (i / j)
abbrev aMod : W2 := wI (fun _ j => 0 < j) fun i j => .int (i % j)
abbrev aPow : W2 := wI CPow fun i j => .int (i ^ j.toNat)
abbrev aLt : W2 := wI0 fun i j => .bl (decide (i < j))
abbrev aLe : W2 := wI0 fun i j => .bl (decide (i ≤ j))
abbrev aGt : W2 := wI0 fun i j => .bl (decide (j < i))
abbrev aGe : W2 := wI0 fun i j => .bl (decide (j ≤ i))
theorem od_add : OpD Z .frz (rI0 fun i j => .int (i + j)) aAdd := opd_I0 fun _ _ _ _ => rfl
theorem od_sub : OpD Z .frz (rI0 fun i j => .int (i - j)) aSub := opd_I0 fun _ _ _ _ => rfl
theorem od_mul : OpD Z .frz (rI CMulW fun i j => .int (i * j)) aMul := opd_I fun _ _ _ _ => rfl
theorem od_div : OpD Z .frz (rI CDivW fun i j => .int (i / j)) aDiv := opd_I fun _ _ _ _ => rfl
theorem od_mod : OpD Z .frz (rI (fun _ j => 0 < j) fun i j => .int (i % j)) aMod := opd_I fun _ _ _ _ => rfl
theorem od_pow : OpD Z .frz (rI CPow fun i j => .int (i ^ j.toNat)) aPow := opd_I fun _ _ _ _ => rfl
theorem od_lt : OpD Z .frz (rI0 fun i j => .bl (decide (i < j))) aLt := opd_I0 fun _ _ _ _ => rfl
theorem od_le : OpD Z .frz (rI0 fun i j => .bl (decide (i ≤ j))) aLe := opd_I0 fun _ _ _ _ => rfl
theorem od_gt : OpD Z .frz (rI0 fun i j => .bl (decide (j < i))) aGt := opd_I0 fun _ _ _ _ => rfl
theorem od_ge : OpD Z .frz (rI0 fun i j => .bl (decide (j ≤ i))) aGe := opd_I0 fun _ _ _ _ => rfl
@[simp] def aNeg : W1
  | .int i, P => P (.int (-i))
  | _, _ => False
theorem ud_neg : UnD Z .frz (rU fun i => .int (-i)) aNeg := by
  intro B F H d1 v1 P Q hd r1 w q
  cases d1 with
  | int i => exact ⟨i, r1.int, q _ F H _ w (Fr.refl hd) rfl⟩
  | _ => exact w.elim
/-- x *= y of great ints -/
theorem iop_mulG : OpR X (inplaceOp .Mult) (rI CMulW fun i j => .int (i * j)) := opI fun _ _ _ _ _ _ _ hc q => imul_int q hc.ok

/-! ### == and != of data -/
mutual
def D.py : D → PyData
  | .bl b => .bool b
  | .int i => .int i
  | .str x => .str x
  | .tup ds => .tuple (pys ds)
  | .lst ds => .list (pys ds)
  | _ => .none
def pys : List D → List PyData
  | [] => []
  | d :: ds => D.py d :: pys ds
end
mutual
def D.plain : D → Bool
  | .dic _ => false
  | .dicL _ => false
  | .row _ _ => false
  | .bag => false
  | .tup ds => plains ds
  | .lst ds => plains ds
  | _ => true
def plains : List D → Bool
  | [] => true
  | d :: ds => D.plain d && plains ds
end
mutual
theorem dp_of (h : Le F H) : ∀ {d : D} {v : V}, d.plain = true → Rep Z B F d v → Dp Z.K H v d.py
  | .non, _, _, r => by cases (show _ = V.non from r); exact .non
  | .bl b, _, _, r => by cases (show _ = V.bl b from r); exact .bl b
  | .int i, _, _, r => by cases (show _ = V.int i from r); exact .int i
  | .str x, _, _, r => by cases (show _ = V.str x from r); exact .str x
  | .tup ds, _, p, r => by
    obtain ⟨a, xs, e, s, q⟩ := r
    subst e
    exact .tup (h.sqT s) (dps_of h (show plains ds = true from p) q)
  | .lst ds, _, p, r => by
    obtain ⟨a, xs, e, s, q⟩ := r
    subst e
    exact .lst (SqL.of (h _ _ s)) (dps_of h (show plains ds = true from p) q)
  | .dic _, _, p, _ => absurd (show false = true from p) (by decide)
  | .dicL _, _, p, _ => absurd (show false = true from p) (by decide)
  | .row _ _, _, p, _ => absurd (show false = true from p) (by decide)
  | .bag, _, p, _ => absurd (show false = true from p) (by decide)
theorem dps_of (h : Le F H) : ∀ {ds : List D} {vs : List V}, plains ds = true → Reps Z B F ds vs → DpAll Z.K H vs (pys ds)
  | [], _, _, r => by rw [r.nil_inv]; exact .nil
  | d :: ds, _, p, r => by
    obtain ⟨x, t, e, r1, r2⟩ := r.cons_inv
    subst e
    have p := Bool.and_eq_true_iff.mp (show (D.plain d && plains ds) = true from p)
    exact .cons (dp_of h p.1 r1) (dps_of h p.2 r2)
end
theorem dp_ofV {d : D} {v : V} (hd : HdOk B F H) (p : d.plain = true) (r : RepV Z B F H d v) : Dp Z.K H v d.py := by
  rcases r with r | ⟨a, o, e, ne, ho, t⟩
  · exact dp_of hd.le p r
  · cases d with
    | lst ds =>
      obtain ⟨xs, eo, q⟩ := t
      subst e
      subst eo
      exact .lst (SqL.of ho) (dps_of hd.le (show plains ds = true from p) q)
    | dic kvs => exact absurd (show false = true from p) (by decide)
    | _ => exact t.elim
/-- it may be compared -/
def D.cmp (d : D) : Prop := d.plain = true ∧ SeqAt.shaped d.py = true
@[simp] def aEq (neg : Bool) : W2 := fun d1 d2 P => d1.cmp ∧ d2.cmp ∧ P (.bl (if neg then !PyData.eqv d1.py d2.py else PyData.eqv d1.py d2.py))
theorem od_eq (hz : Z.K = X.K) : OpD Z .frz (rEqD X.K) (aEq false) := fun B F H d1 d2 v1 v2 P Q hd r1 r2 w q =>
  ⟨_, _, by rw [← hz]; exact dp_ofV hd w.1.1 r1, by rw [← hz]; exact dp_ofV hd w.2.1.1 r2, w.1.2, w.2.1.2, q _ F H _ w.2.2 (Fr.refl hd) rfl⟩
theorem od_ne (hz : Z.K = X.K) : OpD Z .frz (rNeD X.K) (aEq true) := fun B F H d1 d2 v1 v2 P Q hd r1 r2 w q =>
  ⟨_, _, by rw [← hz]; exact dp_ofV hd w.1.1 r1, by rw [← hz]; exact dp_ofV hd w.2.1.1 r2, w.1.2, w.2.1.2, q _ F H _ w.2.2 (Fr.refl hd) rfl⟩
/-- an int in a list of ints -/
@[simp] def aIn : W2 := fun d1 d2 P => ∃ (k : Int) (is : List Int), d1 = .int k ∧ d2 = .lst (is.map D.int) ∧ P (.bl (decide (k ∈ is)))
theorem inV_ints (k : Int) : ∀ is : List Int, inV (.int k) (is.map V.int) = decide (k ∈ is)
  | [] => rfl
  | i :: is => by
    have ih := inV_ints k is
    unfold inV at ih ⊢
    rw [List.map_cons, List.any_cons, ih]
    have e : eqV (V.int i) (V.int k) = decide (k = i) := by
      show (i == k) = decide (k = i)
      by_cases h : k = i
      · subst h; simp
      · simp [h, Ne.symm h]
    rw [e]
    by_cases h : k = i <;> simp [h]
theorem od_in (hz : Z.K = X.K) : OpD Z .frz (rIn X.K false) aIn := fun B F H d1 d2 v1 v2 P Q hd r1 r2 w q => by
  obtain ⟨k, is, e1, e2, p⟩ := w
  subst e1
  subst e2
  obtain ⟨a, xs, e, hl, rs⟩ := r2.lst hd
  subst e
  rw [rs.ints] at hl
  rw [r1.int]
  refine ⟨a, is.map V.int, rfl, .inl (SqL.of hl), rfl, ?_, ?_⟩
  · rw [List.all_map]; exact List.all_eq_true.mpr fun _ _ => rfl
  · show Q (.bl (inV (.int k) (is.map V.int))) H
    rw [inV_ints]
    exact q _ F H _ p (Fr.refl hd) rfl

/-! ### lists, tuples -/
@[simp] def aCat : W2 := fun d1 d2 P => ∃ xs ys, d1 = .lst xs ∧ d2 = .lst ys ∧ xs.length + ys.length ≤ sizeLine ∧ P (.lst (xs ++ ys))
theorem od_cat : OpD Z .new rCat aCat := fun B F H d1 d2 v1 v2 P Q hd r1 r2 w q => by
  obtain ⟨xs, ys, e1, e2, hz, p⟩ := w
  subst e1
  subst e2
  obtain ⟨a, us, ea, ha, ra⟩ := r1.lst hd
  obtain ⟨b, ws, eb, hb, rb⟩ := r2.lst hd
  refine ⟨a, b, us, ws, ea, eb, ha, hb, by rw [ra.length, rb.length]; exact hz, fun l hl => ?_⟩
  exact q _ F _ _ p (Fr.laidN hd hl) ⟨l, _, rfl, hl, hd.noneF hl, upd_same, _, rfl, ra.append rb⟩
@[simp] def aCatT : W2 := fun d1 d2 P => ∃ xs ys, d1 = .tup xs ∧ d2 = .tup ys ∧ xs.length + ys.length ≤ sizeLine ∧ P (.tup (xs ++ ys))
theorem od_catT (hz : Z.K = X.K) : OpD Z .frz (rCatA X.K) aCatT := fun B F H d1 d2 v1 v2 P Q hd r1 r2 w q => by
  obtain ⟨xs, ys, e1, e2, hl, p⟩ := w
  subst e1
  subst e2
  obtain ⟨a, us, ea, ha, ra⟩ := r1.tup
  obtain ⟨b, ws, eb, hb, rb⟩ := r2.tup
  rw [hz] at ha hb
  refine ⟨a, b, us, ws, ea, eb, hd.le.sqT ha, hd.le.sqT hb, by rw [ra.length, rb.length]; exact hl, fun e => ?_, fun _ e => ?_, fun _ _ t ht => ?_⟩
  · subst e
    have : xs = [] := List.length_eq_zero_iff.mp ra.length.symm
    subst this
    exact q _ F H _ p (Fr.refl hd) ⟨b, ws, rfl, by rw [hz]; exact hb, rb⟩
  · subst e
    have : ys = [] := List.length_eq_zero_iff.mp rb.length.symm
    subst this
    exact q _ F H _ p (Fr.refl hd) ⟨a, us, rfl, by rw [hz]; exact ha, by rw [List.append_nil]; exact ra⟩
  · exact q _ (upd F t (.tup (us ++ ws))) _ _ p (Fr.laid hd ht) ⟨t, _, rfl, SqT.of upd_same, (ra.append rb).mono (le_upd (hd.noneF ht))⟩
def aRep : W2 := fun d1 d2 P => ∃ x k, d1 = .lst [x] ∧ d2 = .int k ∧ k.toNat ≤ sizeLine ∧ k < 2 ^ 63 ∧ -(2 ^ 63) ≤ k ∧ P (.lst (List.replicate k.toNat x))
theorem reps_replicate {d : D} {v : V} (r : Rep Z B F d v) : ∀ n : Nat, Reps Z B F (List.replicate n d) (List.replicate n [v]).flatten
  | 0 => Reps.nil
  | n + 1 => by
    rw [List.replicate_succ, List.replicate_succ, List.flatten_cons]
    exact Reps.cons r (reps_replicate r n)
theorem od_rep : OpD Z .new rRep aRep := fun B F H d1 d2 v1 v2 P Q hd r1 r2 w q => by
  obtain ⟨x, k, e1, e2, hz, h1, h2, p⟩ := w
  subst e1
  subst e2
  obtain ⟨a, us, ea, ha, ra⟩ := r1.lst hd
  obtain ⟨u, t, e, ru, rt⟩ := ra.cons_inv
  rw [rt.nil_inv] at e
  subst e
  refine ⟨a, k, [u], ea, r2.int, ha, h2, h1, by rw [List.length_singleton, Nat.one_mul]; exact hz, fun l hl => ?_⟩
  exact q _ F _ _ p (Fr.laidN hd hl) ⟨l, _, rfl, hl, hd.noneF hl, upd_same, _, rfl, reps_replicate ru _⟩
@[simp] def aIx : W2 := fun d1 d2 P => ∃ xs k d, d1.items = some xs ∧ d2 = .int k ∧ atI xs k = some d ∧ P d
theorem reps_atI {ds : List D} {xs : List V} {k : Int} {d : D} (r : Reps Z B F ds xs) (h : atI ds k = some d) : ∃ v, atI xs k = some v ∧ Rep Z B F d v := by
  unfold atI at h ⊢
  rw [r.length]
  cases e : ixN ds.length k with
  | none => rw [e] at h; cases h
  | some j =>
    rw [e] at h
    exact r.get h
theorem od_ix (hz : Z.K = X.K) : OpD Z .frz (rIx X.K) aIx := fun B F H d1 d2 v1 v2 P Q hd r1 r2 w q => by
  obtain ⟨xs, k, d, e1, e2, h, p⟩ := w
  subst e2
  cases d1 with
  | lst ds =>
    cases e1
    obtain ⟨a, us, ea, ha, ra⟩ := r1.lst hd
    obtain ⟨v, ev, rv⟩ := reps_atI ra h
    exact .inl ⟨a, us, k, v, ea, r2.int, SqL.of ha, ev, q _ F H _ p (Fr.refl hd) rv⟩
  | tup ds =>
    cases e1
    obtain ⟨a, us, ea, ha, ra⟩ := r1.tup
    obtain ⟨v, ev, rv⟩ := reps_atI ra h
    exact .inr (.inl ⟨a, us, k, v, ea, r2.int, by rw [← hz]; exact hd.le.sqT ha, ev, q _ F H _ p (Fr.refl hd) rv⟩)
  | _ => cases e1
variable {a b : Expr} {wa wb : WE} {pos : Pos}
theorem pd_ix (hz : Z.K = X.K) (ha : PE X a (tE Z .view wa)) (hb : PE X b (tE Z .view wb)) (hs : PlainIx b := by intro _ _; rfl) : PE X (.Subscript a b pos) (tE Z .frz (wOp aIx wa wb)) :=
  (pe_ix ix_seq ha hb hs).imp fun _ _ _ h => tOp_D (od_ix hz) h
/-- d[k] of a dict of ints -/
@[simp] def aDix : W2 := fun d1 d2 P => ∃ kvs k v, d1 = .dic kvs ∧ d2 = .int k ∧ getI kvs k = some v ∧ P (.int v)
theorem pd_dix (hu : X.A.units + 1 < cLine) (ha : PE X a (tE Z .view wa)) (hb : PE X b (tE Z .view wb)) (hs : NoSl b := by intro _ _; rfl) : PE X (.Subscript a b pos) (tE Z .frz (wOp aDix wa wb)) :=
  (pe_dget hu ha hb hs).imp fun σ H Q ⟨B, H0, F, env, P, hd, sr, hw, q⟩ => by
    refine ⟨B, H0, F, env, _, hd, sr, hw, fun d1 F1 H1 v1 p1 f1 r1 => ?_⟩
    refine ⟨B, H0, F1, env, _, f1.hd, sr.step hd f1, p1, fun d2 F2 H2 v2 p2 f2 r2 => ?_⟩
    obtain ⟨kvs, k, v, e1, e2, h, p⟩ := p2
    subst e1
    subst e2
    obtain ⟨a, ea, ha⟩ := (RepV.step f1.hd f2 r1).dic f2.hd
    refine ⟨a, .int v, ea, ?_, q _ F2 H2 _ p (Fr.trans hd f1 f2) rfl⟩
    rw [RepV.int r2]
    have z := DGet.k (k := (Sum.inl k : Key)) ha
    rw [valV_enc, h] at z
    exact z
/-- d.get(k, x) -/
@[simp] def wGet2 (wd wk wx : WE) : WE := fun env P => wd env fun dd => wk env fun dk => wx env fun dx => ∃ kvs k x, dd = .dic kvs ∧ dk = .int k ∧ dx = .int x ∧ P (.int ((getI kvs k).getD x))
theorem pd_get2 {c : Expr} {wc : WE} {apos cpos : Pos} (hu : X.A.units + 1 < cLine) (ha : PE X a (tE Z .view wa)) (hdic : ∀ env P, wa env P → wa env fun d => (∃ kvs, d = .dic kvs) ∧ P d) (hb : PE X b (tE Z .view wb)) (hc : PE X c (tE Z .view wc)) (m : M2 X a "get" apos b c cpos) :
    PE X (.Call (.Attribute a "get" apos) [b, c] [] cpos) (tE Z .frz (wGet2 wa wb wc)) :=
  (pe_dget2 hu ha hb hc m).imp fun σ H Q ⟨B, H0, F, env, P, hd, sr, hw, q⟩ => by
    refine ⟨B, H0, F, env, _, hd, sr, hdic env _ hw, fun d1 F1 H1 v1 p1 f1 r1 => ?_⟩
    obtain ⟨⟨kvs, e1⟩, p1⟩ := p1
    subst e1
    obtain ⟨a, ea, ha⟩ := RepV.dic f1.hd r1
    refine ⟨a, ea, .inl ⟨_, .inl ha⟩, ?_⟩
    refine ⟨B, H0, F1, env, _, f1.hd, sr.step hd f1, p1, fun d2 F2 H2 v2 p2 f2 r2 => ?_⟩
    have f12 := Fr.trans hd f1 f2
    refine ⟨B, H0, F2, env, _, f2.hd, sr.step hd f12, p2, fun d3 F3 H3 v3 p3 f3 r3 => ?_⟩
    obtain ⟨kvs', k, x, e1, e2, e3, p⟩ := p3
    cases e1
    subst e2
    subst e3
    have r1' := RepV.step f2.hd f3 (RepV.step f1.hd f2 r1)
    obtain ⟨a', ea', ha'⟩ := r1'.dic f3.hd
    rw [ea] at ea'
    cases ea'
    refine ⟨(getI kvs k).map V.int, ?_, ?_⟩
    · have z := DGet.k (k := (Sum.inl k : Key)) ha'
      rw [valV_enc] at z
      rw [RepV.int r2]
      exact z
    · rw [RepV.int r3]
      have e : ((getI kvs k).map V.int).getD (V.int x) = V.int ((getI kvs k).getD x) := by cases getI kvs k <;> rfl
      rw [e]
      exact q _ F3 H3 _ p (Fr.trans hd f12 f3) rfl
/-- d.get(k, x) of a dict of the def's own -/
@[simp] def wGetO (i : Nat) (wk wx : WE) : WE := fun env P => ∃ kvs, env[i]? = some (.own (.dic kvs)) ∧ wk env fun dk => wx env fun dx => ∃ k x, dk = .int k ∧ dx = .int x ∧ P (.int ((getI kvs k).getD x))
theorem pd_getO {i : Nat} {n : Str} {c : Expr} {wc : WE} {apos cpos np : Pos} (hu : X.A.units + 1 < cLine) (hN : X.N[i]? = some n) (hv : Vis X.env.scope n) (hb : PE X b (tE Z .view wb)) (hc : PE X c (tE Z .view wc)) (m : M2 X (.Name n np) "get" apos b c cpos) (hd : (n == ("__debug__" : Str)) = false := by decide) (hcd : (n == ("__classdict__" : Str)) = false := by decide) :
    PE X (.Call (.Attribute (.Name n np) "get" apos) [b, c] [] cpos) (tE Z .frz (wGetO i wb wc)) :=
  (pe_dget2 hu (pe_var hN hv hd hcd) hb hc m).imp fun σ H Q ⟨B, H0, F, env, P, hdk, sr, ⟨kvs, e0, hw⟩, q⟩ => by
    obtain ⟨a, o, e1, e2, e3, e4, e5, t⟩ := sr.own e0
    rw [show o = _ from t] at e5
    refine ⟨_, e1, a, rfl, .inl ⟨_, .inl e5⟩, ?_⟩
    refine ⟨B, H0, F, env, _, hdk, sr, hw, fun d2 F2 H2 v2 p2 f2 r2 => ?_⟩
    refine ⟨B, H0, F2, env, _, f2.hd, sr.step hdk f2, p2, fun d3 F3 H3 v3 p3 f3 r3 => ?_⟩
    obtain ⟨k, x, e2', e3', p⟩ := p3
    subst e2'
    subst e3'
    have h3 := f3.keep a _ e3 (f2.keep a _ e3 e5)
    refine ⟨(getI kvs k).map V.int, ?_, ?_⟩
    · have z := DGet.k (k := (Sum.inl k : Key)) h3
      rw [valV_enc] at z
      rw [RepV.int r2]
      exact z
    · rw [RepV.int r3]
      have e : ((getI kvs k).map V.int).getD (V.int x) = V.int ((getI kvs k).getD x) := by cases getI kvs k <;> rfl
      rw [e]
      exact q _ F3 H3 _ p (Fr.trans hdk f2 f3) rfl
end
end DL

namespace DL
open PySem PySem.Spec PyProof.Rows L2
section
variable {Z : Zc} {X : Cx} {B : Addr} {F H : Hp}
theorem RepVs.one {d : D} {vs : List V} (r : RepVs Z B F H [d] vs) : ∃ v, vs = [v] ∧ RepV Z B F H d v := by
  obtain ⟨x, t, e, r1, r2⟩ := r
  rw [show t = [] from r2] at e
  exact ⟨x, e, r1⟩
theorem RepVs.two {d d' : D} {vs : List V} (r : RepVs Z B F H [d, d'] vs) : ∃ v v', vs = [v, v'] ∧ RepV Z B F H d v ∧ RepV Z B F H d' v' := by
  obtain ⟨x, t, e, r1, r2⟩ := r
  obtain ⟨y, e2, r3⟩ := RepVs.one r2
  rw [e2] at e
  exact ⟨x, y, e, r1, r3⟩
/-- a tuple of ints -/
theorem RepV.tupI {is : List Int} {v : V} (hd : HdOk B F H) (r : RepV Z B F H (.tup (is.map D.int)) v) : ∃ a, v = .ref a ∧ SqT Z.K H a (is.map V.int) := by
  obtain ⟨a, xs, e, h, q⟩ := r.tup
  rw [q.ints] at h
  exact ⟨a, e, hd.le.sqT h⟩
theorem RepV.lstI {is : List Int} {v : V} (hd : HdOk B F H) (r : RepV Z B F H (.lst (is.map D.int)) v) : ∃ a, v = .ref a ∧ H a = some (.lst (is.map V.int)) := by
  obtain ⟨a, xs, e, h, q⟩ := r.lst hd
  rw [q.ints] at h
  exact ⟨a, e, h⟩

/-! ### len -/
def aLen : WL := fun ds P => ∃ d xs, ds = [d] ∧ d.items = some xs ∧ P (.int xs.length)
theorem cd_len (hz : Z.K = X.K) : CallD Z .frz (fun xs H Q => ∃ p ys, xs = [.ref p] ∧ (SqL X.K H p ys ∨ SqT X.K H p ys) ∧ Q (.int ys.length) H) aLen := fun B F H ds vs P Q hd r w q => by
  obtain ⟨d, xs, e, e1, p⟩ := w
  subst e
  obtain ⟨v, ev, rv⟩ := r.one
  subst ev
  cases d with
  | lst ds =>
    cases e1
    obtain ⟨a, us, ea, ha, ra⟩ := rv.lst hd
    exact ⟨a, us, by rw [ea], .inl (SqL.of ha), q _ F H _ p (Fr.refl hd) (by show V.int _ = V.int _; rw [ra.length])⟩
  | tup ds =>
    cases e1
    obtain ⟨a, us, ea, ha, ra⟩ := rv.tup
    exact ⟨a, us, by rw [ea], .inr (by rw [← hz]; exact hd.le.sqT ha), q _ F H _ p (Fr.refl hd) (by show V.int _ = V.int _; rw [ra.length])⟩
  | _ => cases e1

/-! ### sum, max, min of ints -/
def isInts (d : D) (ns : List Int) : Prop := d = .lst (ns.map D.int) ∨ d = .tup (ns.map D.int)
def rOver (K : PySem.W.Frag) (R : List Int → (Int → Prop) → Prop) : List V → Hp → VK → Prop := fun vs H Q => ∃ (a : Addr) (ns : List Int), vs = [V.ref a] ∧ (SqL K H a (ns.map V.int) ∨ SqT K H a (ns.map V.int)) ∧ R ns fun m => Q (.int m) H
theorem Vals.refA {a : Addr} {us : List Value} (r : Vals [V.ref a] us) : us = [Value.ref a] := by
  obtain ⟨u, e, q⟩ := r.one
  cases q
  exact e
theorem sum_any (hc : X.calm = true) : CallR X (.builtin "sum") (rOver X.K fun ns k => k ns.sum) := by
  intro pins s σ H vs us Q I r ⟨a, ns, ev, hs, q⟩
  subst ev
  rcases hs with hs | hs
  · exact cr_sum hc pins s σ H _ us Q I r ⟨a, ns, rfl, hs, q⟩
  · obtain ⟨its, rv, ht, _⟩ := I.tuple hs
    rw [Vals.refA r]
    have hi := rv.ints
    obtain ⟨xs, e⟩ := hi.allInts.items
    have hn : numsOf (intItems xs).toList = ns := by rw [← e]; exact hi.numsOf
    rw [nums_intItems] at hn
    have ht : s.heap.IsTuple a its.toArray := ht
    rw [e] at ht
    refine PySem.W.ktm_sumG (I.ok.hd hc) ht fun h' tk t' hk => ⟨.int ns.sum, H, I.kept hk, ⟨t', ?_⟩, q⟩
    rw [preSum_eq, List.take_of_length_le (by simp), hn]
def maxL (ns : List Int) : Int := ns.tail.foldl max (ns.headD 0)
def minL (ns : List Int) : Int := ns.tail.foldl min (ns.headD 0)
theorem foldl_max_ge : ∀ (ns : List Int) (n : Int), n ≤ ns.foldl max n ∧ ∀ y ∈ ns, y ≤ ns.foldl max n
  | [], n => ⟨Int.le_refl n, fun y h => by cases h⟩
  | k :: ns, n => by
    obtain ⟨h1, h2⟩ := foldl_max_ge ns (max n k)
    refine ⟨Int.le_trans (Int.le_max_left n k) h1, fun y h => ?_⟩
    rcases List.mem_cons.mp h with e | h
    · rw [e]; exact Int.le_trans (Int.le_max_right n k) h1
    · exact h2 y h
theorem foldl_max_mem : ∀ (ns : List Int) (n : Int), ns.foldl max n = n ∨ ns.foldl max n ∈ ns
  | [], n => .inl rfl
  | k :: ns, n => by
    rcases foldl_max_mem ns (max n k) with h | h
    · by_cases hk : n ≤ k
      · rw [List.foldl_cons, h, Int.max_eq_right hk]; exact .inr List.mem_cons_self
      · rw [List.foldl_cons, h, Int.max_eq_left (by omega)]; exact .inl rfl
    · exact .inr (List.mem_cons_of_mem _ h)
theorem foldl_min_le : ∀ (ns : List Int) (n : Int), ns.foldl min n ≤ n ∧ ∀ y ∈ ns, ns.foldl min n ≤ y
  | [], n => ⟨Int.le_refl n, fun y h => by cases h⟩
  | k :: ns, n => by
    obtain ⟨h1, h2⟩ := foldl_min_le ns (min n k)
    refine ⟨Int.le_trans h1 (Int.min_le_left n k), fun y h => ?_⟩
    rcases List.mem_cons.mp h with e | h
    · rw [e]; exact Int.le_trans h1 (Int.min_le_right n k)
    · exact h2 y h
theorem foldl_min_mem : ∀ (ns : List Int) (n : Int), ns.foldl min n = n ∨ ns.foldl min n ∈ ns
  | [], n => .inl rfl
  | k :: ns, n => by
    rcases foldl_min_mem ns (min n k) with h | h
    · by_cases hk : k ≤ n
      · rw [List.foldl_cons, h, Int.min_eq_right hk]; exact .inr List.mem_cons_self
      · rw [List.foldl_cons, h, Int.min_eq_left (by omega)]; exact .inl rfl
    · exact .inr (List.mem_cons_of_mem _ h)
theorem maxL_mem {ns : List Int} (h : ns ≠ []) : maxL ns ∈ ns := by
  cases ns with
  | nil => exact absurd rfl h
  | cons n ns =>
    rcases foldl_max_mem ns n with e | e
    · show ns.foldl max n ∈ n :: ns; rw [e]; exact List.mem_cons_self
    · exact List.mem_cons_of_mem _ e
theorem maxL_ge {ns : List Int} {y : Int} (h : y ∈ ns) : y ≤ maxL ns := by
  cases ns with
  | nil => cases h
  | cons n ns =>
    obtain ⟨h1, h2⟩ := foldl_max_ge ns n
    rcases List.mem_cons.mp h with e | h
    · rw [e]; exact h1
    · exact h2 y h
theorem minL_mem {ns : List Int} (h : ns ≠ []) : minL ns ∈ ns := by
  cases ns with
  | nil => exact absurd rfl h
  | cons n ns =>
    rcases foldl_min_mem ns n with e | e
    · show ns.foldl min n ∈ n :: ns; rw [e]; exact List.mem_cons_self
    · exact List.mem_cons_of_mem _ e
theorem minL_le {ns : List Int} {y : Int} (h : y ∈ ns) : minL ns ≤ y := by
  cases ns with
  | nil => cases h
  | cons n ns =>
    obtain ⟨h1, h2⟩ := foldl_min_le ns n
    rcases List.mem_cons.mp h with e | h
    · rw [e]; exact h1
    · exact h2 y h
theorem reads_int {h : Heap} {v : Value} {m : Int} {bs : List Addr} (r : Reads h v (.int m) bs) : ∃ t, v = .int m t := by
  cases r with
  | int _ t => exact ⟨t, rfl⟩
theorem readsAll_ints (h : Heap) : ∀ {us : List Value} {ns : List Int}, IntsAre us ns → ReadsAll h us (ns.map PyData.int) []
  | _, _, .nil => .nil
  | _, _, .cons n t r => ReadsAll.cons (as := []) (bs := []) (.int n t) (readsAll_ints h r)
theorem alike_ints (ns : List Int) : PySem.W.AlikeAll (ns.map PyData.int) := by
  refine ⟨fun x hx y hy => ?_, fun x hx => ?_⟩
  · obtain ⟨a, _, rfl⟩ := List.mem_map.mp hx
    obtain ⟨b, _, rfl⟩ := List.mem_map.mp hy
    rfl
  · obtain ⟨a, _, rfl⟩ := List.mem_map.mp hx
    exact fun z => nomatch z
theorem depth_ints : ∀ ns : List Int, PyData.depthAll (ns.map PyData.int) = 0
  | [] => rfl
  | n :: ns => by
    show max (PyData.depth (.int n)) (PyData.depthAll (ns.map PyData.int)) = 0
    rw [depth_ints ns]; rfl
theorem max_any (hc : X.calm = true) (hu : X.A.units + 1 < cLine) : CallR X (.builtin "max") (rOver X.K fun ns k => ns ≠ [] ∧ k (maxL ns)) := by
  intro pins s σ H vs us Q I r ⟨a, ns, ev, hs, hne, q⟩
  subst ev
  rcases hs with hs | hs
  · refine cr_max hc pins s σ H _ us Q I r ⟨a, ns, rfl, hs, List.length_pos_iff.mpr hne, fun m h1 h2 => ?_⟩
    have e : m = maxL ns := Int.le_antisymm (maxL_ge h1) (h2 _ (maxL_mem hne))
    rw [e]; exact q
  · obtain ⟨its, rv, ht, _⟩ := I.tuple hs
    rw [Vals.refA r]
    have hi := rv.ints
    cases ns with
    | nil => exact absurd rfl hne
    | cons n ns =>
      refine PySem.W.max_tuple_data (x := .int n) (xs := ns.map PyData.int) (as := []) (I.ok.hd hc) ht (readsAll_ints (ns := n :: ns) _ hi) (alike_ints (n :: ns)) ?_ fun i v h' tk bs hv hr hk => ?_
      · have := depth_ints (n :: ns)
        rw [List.map_cons] at this
        rw [this]; exact hu
      · rw [PySem.W.maxD_ints] at hr
        obtain ⟨t, e⟩ := reads_int hr
        exact ⟨.int (maxL (n :: ns)), H, I.kept hk, ⟨t, e⟩, q⟩
theorem min_any (hc : X.calm = true) (hu : X.A.units + 1 < cLine) : CallR X (.builtin "min") (rOver X.K fun ns k => ns ≠ [] ∧ k (minL ns)) := by
  intro pins s σ H vs us Q I r ⟨a, ns, ev, hs, hne, q⟩
  subst ev
  rcases hs with hs | hs
  · refine cr_min hc pins s σ H _ us Q I r ⟨a, ns, rfl, hs, List.length_pos_iff.mpr hne, fun m h1 h2 => ?_⟩
    have e : m = minL ns := Int.le_antisymm (h2 _ (minL_mem hne)) (minL_le h1)
    rw [e]; exact q
  · obtain ⟨its, rv, ht, _⟩ := I.tuple hs
    rw [Vals.refA r]
    have hi := rv.ints
    cases ns with
    | nil => exact absurd rfl hne
    | cons n ns =>
      refine PySem.W.min_tuple_data (x := .int n) (xs := ns.map PyData.int) (as := []) (I.ok.hd hc) ht (readsAll_ints (ns := n :: ns) _ hi) (alike_ints (n :: ns)) ?_ fun i v h' tk bs hv hr hk => ?_
      · have := depth_ints (n :: ns)
        rw [List.map_cons] at this
        rw [this]; exact hu
      · rw [PySem.W.minD_ints] at hr
        obtain ⟨t, e⟩ := reads_int hr
        exact ⟨.int (minL (n :: ns)), H, I.kept hk, ⟨t, e⟩, q⟩
@[simp] def aOver (R : List Int → (Int → Prop) → Prop) : WL := fun ds P => ∃ d ns, ds = [d] ∧ isInts d ns ∧ R ns fun m => P (.int m)
theorem cd_over {R : List Int → (Int → Prop) → Prop} (hR : ∀ ns k k', (∀ m, k m → k' m) → R ns k → R ns k') (hz : Z.K = X.K) : CallD Z .frz (rOver X.K R) (aOver R) := fun B F H ds vs P Q hd r w q => by
  obtain ⟨d, ns, e, h, p⟩ := w
  subst e
  obtain ⟨v, ev, rv⟩ := r.one
  subst ev
  have go := hR ns _ (fun m => Q (.int m) H) (fun m pm => q (.int m) F H _ pm (Fr.refl hd) rfl) p
  rcases h with h | h
  · subst h
    obtain ⟨a, ea, ha⟩ := rv.lstI hd
    exact ⟨a, ns, by rw [ea], .inl (SqL.of ha), go⟩
  · subst h
    obtain ⟨a, ea, ha⟩ := rv.tupI hd
    exact ⟨a, ns, by rw [ea], .inr (by rw [← hz]; exact ha), go⟩
abbrev aSum : WL := aOver fun ns k => k ns.sum
abbrev aMax : WL := aOver fun ns k => ns ≠ [] ∧ k (maxL ns)
abbrev aMin : WL := aOver fun ns k => ns ≠ [] ∧ k (minL ns)
theorem cd_sum (hz : Z.K = X.K) : CallD Z .frz (rOver X.K fun ns k => k ns.sum) aSum := cd_over (fun _ _ _ h k => h _ k) hz
theorem cd_max (hz : Z.K = X.K) : CallD Z .frz (rOver X.K fun ns k => ns ≠ [] ∧ k (maxL ns)) aMax := cd_over (fun _ _ _ h k => ⟨k.1, h _ k.2⟩) hz
theorem cd_min (hz : Z.K = X.K) : CallD Z .frz (rOver X.K fun ns k => ns ≠ [] ∧ k (minL ns)) aMin := cd_over (fun _ _ _ h k => ⟨k.1, h _ k.2⟩) hz
/-- max(a, b), min(a, b) of two ints -/
def aTwo (g : Int → Int → Int) : WL := fun ds P => ∃ i j, ds = [.int i, .int j] ∧ P (.int (g i j))
theorem cd_two {g : Int → Int → Int} : CallD Z .frz (fun xs H Q => ∃ i j, xs = [.int i, .int j] ∧ Q (.int (g i j)) H) (aTwo g) := fun B F H ds vs P Q hd r w q => by
  obtain ⟨i, j, e, p⟩ := w
  subst e
  exact ⟨i, j, RepVs.ints (is := [i, j]) r, q _ F H _ p (Fr.refl hd) rfl⟩
abbrev aMax2 : WL := aTwo fun i j => if j > i then j else i
abbrev aMin2 : WL := aTwo fun i j => if j < i then j else i
/-- gcd -/
abbrev aGcd : WL := aTwo fun i j => ((Nat.gcd i.natAbs j.natAbs : Nat) : Int)
theorem cd_gcd : CallD Z .frz rGcd aGcd := cd_two
/-- abs, int -/
def aAbs : WL := fun ds P => ∃ i : Int, ds = [.int i] ∧ P (.int (if i < 0 then -i else i))
theorem cd_abs : CallD Z .frz (fun xs H Q => ∃ i, xs = [.int i] ∧ Q (.int (if i < 0 then -i else i)) H) aAbs := fun B F H ds vs P Q hd r w q => by
  obtain ⟨i, e, p⟩ := w
  subst e
  exact ⟨i, RepVs.ints (is := [i]) r, q _ F H _ p (Fr.refl hd) rfl⟩
def aInt : WL := fun ds P => (∃ i : Int, ds = [.int i] ∧ P (.int i)) ∨ ∃ k : Bool, ds = [.bl k] ∧ P (.int (if k then 1 else 0))
theorem cd_int : CallD Z .frz (fun xs H Q => (∃ i, xs = [.int i] ∧ Q (.int i) H) ∨ ∃ k, xs = [.bl k] ∧ Q (.int (if k then 1 else 0)) H) aInt := fun B F H ds vs P Q hd r w q => by
  rcases w with ⟨i, e, p⟩ | ⟨k, e, p⟩
  · subst e
    exact .inl ⟨i, RepVs.ints (is := [i]) r, q _ F H _ p (Fr.refl hd) rfl⟩
  · subst e
    obtain ⟨v, ev, rv⟩ := r.one
    exact .inr ⟨k, by rw [ev, rv.bl], q _ F H _ p (Fr.refl hd) rfl⟩
/-- any, all of a list of bools -/
theorem Reps.bls : ∀ {bs : List Bool} {xs : List V}, Reps Z B F (bs.map D.bl) xs → xs = bs.map V.bl
  | [], _, h => h.nil_inv
  | i :: is, _, h => by
    obtain ⟨x, r, rfl, h1, h2⟩ := h.cons_inv
    rw [show x = V.bl i from h1, Reps.bls h2]; rfl
@[simp] def aBs (g : List Bool → Bool) : WL := fun ds P => ∃ bs, ds = [.lst (bs.map D.bl)] ∧ P (.bl (g bs))
theorem cd_bs {g : List Bool → Bool} : CallD Z .frz (fun vs H Q => ∃ (a : Addr) (bs : List Bool), vs = [V.ref a] ∧ SqL X.K H a (bs.map V.bl) ∧ Q (.bl (g bs)) H) (aBs g) := fun B F H ds vs P Q hd r w q => by
  obtain ⟨bs, e, p⟩ := w
  subst e
  obtain ⟨v, ev, rv⟩ := r.one
  obtain ⟨a, xs, ea, ha, rx⟩ := rv.lst hd
  rw [rx.bls] at ha
  exact ⟨a, bs, by rw [ev, ea], SqL.of ha, q _ F H _ p (Fr.refl hd) rfl⟩
abbrev aAny : WL := aBs fun bs => bs.any id
abbrev aAll : WL := aBs fun bs => bs.all id
theorem cd_any : CallD Z .frz (rAny X.K) aAny := cd_bs
theorem cd_all : CallD Z .frz (rAll X.K) aAll := cd_bs

/-! ### list(x), tuple(x), sorted(x) -/
def aList : WL := fun ds P => ∃ d xs, ds = [d] ∧ d.items = some xs ∧ P (.lst xs)
theorem cd_list (hz : Z.K = X.K) : CallD Z .new (fun xs H Q => ∃ p ys, xs = [.ref p] ∧ (SqL X.K H p ys ∨ SqT X.K H p ys) ∧ ∀ l, H l = none → Q (.ref l) (upd H l (.lst ys))) aList := fun B F H ds vs P Q hd r w q => by
  obtain ⟨d, xs, e, e1, p⟩ := w
  subst e
  obtain ⟨v, ev, rv⟩ := r.one
  subst ev
  have go : ∀ us, Reps Z B F xs us → ∀ l, H l = none → Q (.ref l) (upd H l (.lst us)) := fun us ru l hl => q _ F _ _ p (Fr.laidN hd hl) ⟨l, _, rfl, hl, hd.noneF hl, upd_same, us, rfl, ru⟩
  cases d with
  | lst ds =>
    cases e1
    obtain ⟨a, us, ea, ha, ra⟩ := rv.lst hd
    exact ⟨a, us, by rw [ea], .inl (SqL.of ha), go us ra⟩
  | tup ds =>
    cases e1
    obtain ⟨a, us, ea, ha, ra⟩ := rv.tup
    exact ⟨a, us, by rw [ea], .inr (by rw [← hz]; exact hd.le.sqT ha), go us ra⟩
  | _ => cases e1
def aTuple : WL := fun ds P => ∃ d xs, ds = [d] ∧ d.items = some xs ∧ P (.tup xs)
theorem cd_tuple (hz : Z.K = X.K) : CallD Z .frz (fun xs H Q => ∃ p ys, xs = [.ref p] ∧ ((SqL X.K H p ys ∧ ∀ l, H l = none → Q (.ref l) (upd H l (.tup ys))) ∨ (SqT X.K H p ys ∧ Q (.ref p) H))) aTuple := fun B F H ds vs P Q hd r w q => by
  obtain ⟨d, xs, e, e1, p⟩ := w
  subst e
  obtain ⟨v, ev, rv⟩ := r.one
  subst ev
  cases d with
  | lst ds =>
    cases e1
    obtain ⟨a, us, ea, ha, ra⟩ := rv.lst hd
    exact ⟨a, us, by rw [ea], .inl ⟨SqL.of ha, fun l hl => q _ (upd F l (.tup us)) _ _ p (Fr.laid hd hl) ⟨l, us, rfl, SqT.of upd_same, ra.mono (le_upd (hd.noneF hl))⟩⟩⟩
  | tup ds =>
    cases e1
    obtain ⟨a, us, ea, ha, ra⟩ := rv.tup
    exact ⟨a, us, by rw [ea], .inr ⟨by rw [← hz]; exact hd.le.sqT ha, q _ F H _ p (Fr.refl hd) ⟨a, us, rfl, ha, ra⟩⟩⟩
  | _ => cases e1
@[simp] def aSorted : WL := fun ds P => ∃ ns : List Int, ds = [.lst (ns.map D.int)] ∧ ∀ ns' : List Int, ns'.Perm ns → ns'.Pairwise (· ≤ ·) → P (.lst (ns'.map D.int))
theorem cd_sorted : CallD Z .new (rSortedI X.K) aSorted := fun B F H ds vs P Q hd r w q => by
  obtain ⟨ns, e, p⟩ := w
  subst e
  obtain ⟨v, ev, rv⟩ := r.one
  obtain ⟨a, ea, ha⟩ := rv.lstI hd
  exact ⟨a, ns, by rw [ev, ea], SqL.of ha, fun ns' l h1 h2 hl => q _ F _ _ (p ns' h1 h2) (Fr.laidN hd hl) ⟨l, _, rfl, hl, hd.noneF hl, upd_same, _, rfl, Reps.ofInts ns'⟩⟩
variable {e : Expr} {es : List Expr} {w wa wb : WE} {ws : WA} {k : Kd} {pos p : Pos} {x : Str}
/-- sorted(xs, reverse=True) -/
@[simp] def wSortRev (w : WE) : WE := fun env P => w env fun d => ∃ ns : List Int, d = .lst (ns.map D.int) ∧ ∀ ns' : List Int, ns'.Perm ns → ns'.Pairwise (· ≥ ·) → P (.lst (ns'.map D.int))
/-! ### slices -/
def cutD (xs : List D) (lo hi : Option Int) : List D := (xs.drop (HT.sIx xs.length 0 lo)).take (HT.sIx xs.length xs.length hi - HT.sIx xs.length 0 lo)
theorem Reps.cut {ds : List D} {xs : List V} (r : Reps Z B F ds xs) (lo hi : Option Int) : Reps Z B F (cutD ds lo hi) (cutV xs lo hi) := by
  unfold cutD cutV
  rw [r.length]
  exact (r.drop _).take _
abbrev WO := En → (Option Int → Prop) → Prop
def tO (Z : Zc) (w : WO) : TO := fun σ H Q => ∃ B H0 F env P, HdOk B F H ∧ SR Z B H0 F H σ env ∧ w env P ∧ ∀ o F' H', P o → Fr B H F H' F' → Q o H'
theorem _root_.L2.PO.imp {e : Option Expr} {t t' : TO} (h : PO X e t) (i : ∀ σ H Q, t' σ H Q → t σ H Q) : PO X e t' := ⟨fun pins s σ H Q I q => h.run pins s σ H Q I (i σ H Q q)⟩
@[simp] def wNoPart : WO := fun _ P => P none
@[simp] def wPart (w : WE) : WO := fun env P => w env fun d => ∃ i, d = .int i ∧ P (some i)
theorem pd_noPart : PO X none (tO Z wNoPart) := po_none.imp fun σ H Q ⟨B, H0, F, env, P, hd, sr, hw, q⟩ => q none F H hw (Fr.refl hd)
theorem pd_part (h : PE X e (tE Z .view w)) : PO X (some e) (tO Z (wPart w)) := (po_some h).imp fun σ H Q ⟨B, H0, F, env, P, hd, sr, hw, q⟩ =>
  ⟨B, H0, F, env, _, hd, sr, hw, fun d F' H' v p f r => by
    obtain ⟨i, e, p⟩ := p
    subst e
    exact ⟨i, RepV.int r, q _ F' H' p f⟩⟩
@[simp] def wSlice (w : WE) (wl wh : WO) : WE := fun env P => w env fun d => wl env fun lo => wh env fun hi => (∃ xs, d = .lst xs ∧ P (.lst (cutD xs lo hi))) ∨ ∃ xs, d = .tup xs ∧ P (.tup (cutD xs lo hi))
variable {lo hi : Option Expr} {wl wh : WO} {p2 : Pos}
theorem cutD_len {ds : List D} {lo hi : Option Int} (h : HT.sIx ds.length 0 lo = 0 ∧ HT.sIx ds.length ds.length hi = ds.length) : cutD ds lo hi = ds := by
  unfold cutD
  rw [h.1, h.2, List.drop_zero, Nat.sub_zero, List.take_length]
theorem pd_slice (hz : Z.K = X.K) (he : PE X e (tE Z .view w)) (hl : PO X lo (tO Z wl)) (hh : PO X hi (tO Z wh)) : PE X (.Subscript e (.Slice lo hi none p2) pos) (tE Z .frz (wSlice w wl wh)) :=
  (pe_slice (sl_list.or sl_tupA) he hl hh).imp fun σ H Q ⟨B, H0, F, env, P, hd, sr, hw, q⟩ => by
    refine ⟨B, H0, F, env, _, hd, sr, hw, fun d F1 H1 v p1 f1 r1 => ?_⟩
    refine ⟨B, H0, F1, env, _, f1.hd, sr.step hd f1, p1, fun lo F2 H2 p2 f2 => ?_⟩
    have f12 := Fr.trans hd f1 f2
    refine ⟨B, H0, F2, env, _, f2.hd, sr.step hd f12, p2, fun hi F3 H3 p3 f3 => ?_⟩
    have f13 := Fr.trans hd f12 f3
    have r3 := RepV.step f2.hd f3 (RepV.step f1.hd f2 r1)
    rcases p3 with ⟨xs, e1, p⟩ | ⟨xs, e1, p⟩
    · subst e1
      obtain ⟨a, us, ea, ha, ra⟩ := r3.lst f3.hd
      refine .inl ⟨a, us, ea, SqL.of ha, fun l hl => ?_⟩
      exact q _ (upd F3 l (.lst (cutV us lo hi))) _ _ p (Fr.trans hd f13 (Fr.laid f3.hd hl)) ⟨l, _, rfl, upd_same, (ra.cut lo hi).mono (le_upd (f3.hd.noneF hl))⟩
    · subst e1
      obtain ⟨a, us, ea, ha, ra⟩ := r3.tup
      refine .inr ⟨a, us, ea, by rw [← hz]; exact f3.hd.le.sqT ha, fun h => ?_, fun _ l hl => ?_⟩
      · rw [ra.length] at h
        rw [cutD_len h] at p
        exact q _ F3 H3 _ p f13 ⟨a, us, rfl, ha, ra⟩
      · exact q _ (upd F3 l (.tup (cutV us lo hi))) _ _ p (Fr.trans hd f13 (Fr.laid f3.hd hl)) ⟨l, _, rfl, SqT.of upd_same, (ra.cut lo hi).mono (le_upd (f3.hd.noneF hl))⟩
/-- xs[::-1] -/
@[simp] def wRev (w : WE) : WE := fun env P => w env fun d => ∃ xs, d = .lst xs ∧ P (.lst xs.reverse)
theorem pd_rev {k : Nat} {p1 p2 p3 : Pos} (he : PE X e (tE Z .view w)) : PE X (.Subscript e (.Slice none none (some (.UnaryOp .USub (.Constant (.int 1) k p1) p2)) p3) pos) (tE Z .new (wRev w)) :=
  (pe_revL he).imp fun σ H Q ⟨B, H0, F, env, P, hd, sr, hw, q⟩ => by
    refine ⟨B, H0, F, env, _, hd, sr, hw, fun d F1 H1 v p1 f1 r1 => ?_⟩
    obtain ⟨xs, e1, p⟩ := p1
    subst e1
    obtain ⟨a, us, ea, ha, ra⟩ := RepV.lst f1.hd r1
    exact ⟨a, us, ea, SqL.of ha, fun l hl => q _ F1 _ _ p (Fr.trans hd f1 (Fr.laidN f1.hd hl)) (Res.back hd f1 ⟨l, _, rfl, hl, f1.hd.noneF hl, upd_same, _, rfl, ra.reverse⟩)⟩
/-- a built-in function that the text has imported -/
theorem pd_callBfun {id : String} {r : List V → Hp → VK → Prop} {wl : WL} (hr : CallD Z k r wl) (hc : CallR X (.builtin id) r) (hg : Gl X x) (hm : X.mg x = some (.builtin id)) (ha : PA X (e :: es) (tA Z .view ws)) (hdb : (x == ("__debug__" : Str)) = false := by decide)
    (he : starEach (e :: es) X.env = (false, eval e X.env) :: starEach es X.env := by rfl) (hpl : (backTo pos (starEach es X.env)).any (·.1) = false := by rfl) : PE X (.Call (.Name x p) (e :: es) [] pos) (tE Z k (wCall wl ws)) :=
  (pe_callBfun hc hg hm ha hdb he hpl).imp fun _ _ _ h => tCB_D hr h
end
end DL

namespace DL
open PySem PySem.Spec PyProof.Rows L2
section
variable {P : Program} {w : World} {K : PySem.W.Frag} {mg : Str → Option Value} {base : Heap} {Z : Zc}
/-- a def of the text stands at f -/
def FnAt (K : PySem.W.Frag) (x qual : Str) (st : Stmt) (ps : List Str) (f : Addr) : Prop := ∃ fd, Fun K x qual st f fd ∧ Binds K fd ps []
@[simp] def startD (N : List Str) (ds : List D) : En := ds.map Sl.val ++ List.replicate (N.length - ds.length) Sl.no
/-- what a body computes of its arguments -/
@[simp] def wFn (N : List Str) (wb : WS) : WL := fun ds k => wb { nx := fun _ => k .non, rt := k } (startD N ds)
theorem sr_start {B : Addr} {F H : Hp} {N : List Str} {ds : List D} {vs : List V} {O : Addr → Prop} (r : Reps Z B F ds vs) (hl : ds.length ≤ N.length) : SR Z B O F H (start N vs) (startD N ds) := by
  refine ⟨?_, fun _ => 0, fun i j s t e1 e2 o1 o2 _ => ?_, fun i s e => ?_⟩
  · unfold L2.start startD
    simp only [List.length_append, List.length_map, List.length_replicate, r.length]
  · have key : ∀ (i : Nat) (s : Sl), (startD N ds)[i]? = some s → s.isOwn → False := fun i s e o => by
      unfold startD at e
      have := List.mem_of_getElem? e
      rcases List.mem_append.mp this with m | m
      · obtain ⟨d, _, rfl⟩ := List.mem_map.mp m
        exact o
      · rw [(List.mem_replicate.mp m).2] at o
        exact o
    exact (key i s e1 o1).elim
  · unfold startD at e
    unfold L2.start
    by_cases hi : i < ds.length
    · rw [List.getElem?_append_left (by simpa using hi), List.getElem?_map, List.getElem?_eq_getElem hi] at e
      cases e
      obtain ⟨v, e1, r1⟩ := r.get (List.getElem?_eq_getElem hi)
      refine ⟨v, ?_, r1⟩
      rw [List.getElem?_append_left (by simpa [r.length] using hi), List.getElem?_map, e1]; rfl
    · rw [List.getElem?_append_right (by simpa using Nat.not_lt.mp hi), List.getElem?_replicate] at e
      split at e
      · cases e; trivial
      · cases e
/-- THE RULE for a def -/
theorem fnr_of {x qual : Str} {f : Addr} {st : Stmt} {N ps : List Str} {k : Nat} {wb : WS} {wl : WL} (d : FnAt K x qual st ps f) (S : FnScope N ps (defScope st)) (himp : ∀ ds Q, wl ds Q → ds.length = ps.length ∧ wFn N wb ds Q)
    (body : ∀ (cdv : Value) (A : Around) (outer : List Env) (s : Shared) (H : Hp) (E : XK), Room k (A.deeper (envOfC qual (defScope st) s.heap.objs.size f cdv)) → PSs (cxOf CX0 P w K mg base N qual (defScope st) f cdv A outer s H E).nox (defBody st) (tS Z wb)) :
    FnR P w K mg base CX0 (k + 1) f (spD Z wl) := by
  obtain ⟨fd, F, b⟩ := d
  have hpl : ps.length ≤ N.length := by have := congrArg List.length S.pre; rw [List.length_take] at this; omega
  have G : FnOk P w K mg base CX0 (k + 1) f fd ps (spD Z wl) := F.ok S (fun vs H Q E ⟨B, F, ds, P, hd, r, hw, q⟩ => by
    rw [r.length]; exact (himp ds P hw).1) fun cdv A outer s H vs Q E hr ⟨B, F, ds, P, hd, r, hw, q⟩ => by
    refine ⟨_, body cdv A outer s H E hr, B, H, F, F, F, startD N ds, { nx := fun _ => P .non, rt := P }, ⟨hd, Fr.refl hd, Le.refl _, sr_start r (by rw [(himp ds P hw).1]; exact hpl)⟩, (himp ds P hw).2, ⟨?_, ?_, ?_, ?_⟩⟩
    · exact fun env σ F' H' p s => q .non F' H' .non p s.fr rfl
    · exact fun d v F' H' p f r => q d F' H' v p f r
    · exact fun env σ F' H' p s => p.elim
    · exact fun env σ F' H' p s => p.elim
  have := G.raw b .nil
  simpa only [List.append_nil] using this
/-- a def of the module, under its name -/
def DefAt (K : PySem.W.Frag) (mg : Str → Option Value) (x : Str) (st : Stmt) (ps : List Str) : Prop := ∃ f, FnAt K x x st ps f ∧ mg x = some (.ref f) ∧ PySem.W.keepIn K (.ref f) = true
theorem cal_of {x : Str} {st : Stmt} {N ps : List Str} {k : Nat} {wb : WS} {wl : WL} (d : DefAt K mg x st ps) (S : FnScope N ps (defScope st)) (himp : ∀ ds Q, wl ds Q → ds.length = ps.length ∧ wFn N wb ds Q)
    (body : ∀ (f : Addr) (cdv : Value) (A : Around) (outer : List Env) (s : Shared) (H : Hp) (E : XK), Room k (A.deeper (envOfC x (defScope st) s.heap.objs.size f cdv)) → PSs (cxOf CX0 P w K mg base N x (defScope st) f cdv A outer s H E).nox (defBody st) (tS Z wb)) :
    Cal P w K mg base Z (k + 1) x wl := by
  obtain ⟨f, d, hm, hk⟩ := d
  exact ⟨f, hm, hk, fnr_of d S himp (body f)⟩
end
end DL

namespace DL
open PySem PySem.Spec PyProof.Rows L2

/-! ### rows -/
/-- what the text holds of the class of the rows -/
structure ZOk (K : PySem.W.Frag) (Z : Zc) : Prop where
  k : Z.K = K
  cls : SlX.SCls K Z.C
  isi : SlX.SIsi K Z.C
  tops : ∃ p, SlX.Slot1 K Z.C "own_tops" p 5
  bots : ∃ p, SlX.Slot1 K Z.C "own_bottoms" p 1
  one : PySem.W.kitOne K (.ref Z.C) (.ref Z.C) = some true
theorem RowAt.slt {Z : Zc} {H : Hp} {a : Addr} {ts bs : List Int} (r : RowAt Z H a ts bs) : ∃ dx vs, SlX.Slt H a Z.C dx vs := by
  obtain ⟨dx, vs, p, q, h1, h2, _⟩ := r
  exact ⟨dx, vs, .inr ⟨h1, h2⟩⟩
section
variable {X : Cx} {Z : Zc} {e o : Expr} {es : List Expr} {w wa wb : WE} {ws : WA} {pos apos p : Pos} {x m : Str} {wl : WL}
@[simp] def D.onRow : D → (List Int → List Int → Prop) → Prop
  | .row ts bs, R => R ts bs
  | _, _ => False
theorem D.onRow_ex {d : D} {R : List Int → List Int → Prop} (h : d.onRow R) : ∃ ts bs, d = .row ts bs ∧ R ts bs := by
  cases d with
  | row ts bs => exact ⟨ts, bs, rfl, h⟩
  | _ => exact h.elim
@[simp] def wTops (w : WE) : WE := fun env P => w env fun d => d.onRow fun ts bs => P (.tup (ts.map .int))
@[simp] def wBots (w : WE) : WE := fun env P => w env fun d => d.onRow fun ts bs => P (.tup (bs.map .int))
theorem pd_tops (z : ZOk X.K Z) (he : PE X e (tE Z .frz w)) (hb : attributeBase e "own_tops" X.env (eval e X.env) = eval e X.env := by rfl) : PE X (.Attribute e "own_tops" pos) (tE Z .frz (wTops w)) :=
  (SlX.pe_sl he hb).imp fun σ H Q ⟨B, H0, F, env, P, hd, sr, hw, q⟩ => by
    refine ⟨B, H0, F, env, _, hd, sr, hw, fun d F1 H1 v p1 f1 r1 => ?_⟩
    obtain ⟨ts, bs, e1, p⟩ := D.onRow_ex p1
    subst e1
    obtain ⟨a, ea, dx, vs, pt, pb, h1, h2, h3, h4, h5, h6⟩ := r1
    obtain ⟨pp, sl⟩ := z.tops
    exact ⟨a, Z.C, dx, pp, vs, 5, V.ref pt, ea, .inr ⟨f1.hd.le _ _ h1, f1.hd.le _ _ h2⟩, z.cls, sl, h3, q _ F1 H1 _ p f1 ⟨pt, _, rfl, h5, Reps.ofInts ts⟩⟩
theorem pd_bots (z : ZOk X.K Z) (he : PE X e (tE Z .frz w)) (hb : attributeBase e "own_bottoms" X.env (eval e X.env) = eval e X.env := by rfl) : PE X (.Attribute e "own_bottoms" pos) (tE Z .frz (wBots w)) :=
  (SlX.pe_sl he hb).imp fun σ H Q ⟨B, H0, F, env, P, hd, sr, hw, q⟩ => by
    refine ⟨B, H0, F, env, _, hd, sr, hw, fun d F1 H1 v p1 f1 r1 => ?_⟩
    obtain ⟨ts, bs, e1, p⟩ := D.onRow_ex p1
    subst e1
    obtain ⟨a, ea, dx, vs, pt, pb, h1, h2, h3, h4, h5, h6⟩ := r1
    obtain ⟨pp, sl⟩ := z.bots
    exact ⟨a, Z.C, dx, pp, vs, 1, V.ref pb, ea, .inr ⟨f1.hd.le _ _ h1, f1.hd.le _ _ h2⟩, z.cls, sl, h4, q _ F1 H1 _ p f1 ⟨pb, _, rfl, h6, Reps.ofInts bs⟩⟩
/-- isinstance(x, the class) of a row -/
@[simp] def wIsRow (w : WE) : WE := fun env P => w env fun d => d.onRow fun _ _ => P (.bl true)
theorem pd_isRow {pi pq : Pos} (z : ZOk X.K Z) (hc : X.mg "Quotient" = some (.ref Z.C)) (hg : Gl X "isinstance") (hm : X.mg "isinstance" = none) (hq : Gl X "Quotient") (he : PE X e (tE Z .frz w))
    (h1 : starEach [e, .Name "Quotient" pq] X.env = (false, eval e X.env) :: starEach [.Name "Quotient" pq] X.env := by rfl) (h2 : starEach [.Name "Quotient" pq] X.env = (false, eval (.Name "Quotient" pq) X.env) :: starEach [] X.env := by rfl) (hpl : (backTo pos (starEach [.Name "Quotient" pq] X.env)).any (·.1) = false := by rfl) :
    PE X (.Call (.Name "isinstance" pi) [e, .Name "Quotient" pq] [] pos) (tE Z .frz (wIsRow w)) :=
  (pe_callB (SlX.call_isiSl (.ref Z.C)) hg hm boot_isinstance (pa_cons he (pa_cons (pe_glob hq hc (v := .ref Z.C) rfl) pa_nil h2) h1) (by decide) (by decide) h1 hpl).imp fun σ H Q ⟨B, H0, F, env, P, hd, sr, hw, q⟩ => by
    refine ⟨B, H0, F, env, _, hd, sr, hw, fun d F1 H1 v p1 f1 r1 => ?_⟩
    obtain ⟨ts, bs, e1, p⟩ := D.onRow_ex p1
    subst e1
    obtain ⟨a, ea, ra⟩ := r1
    subst ea
    obtain ⟨dx, vs, hs⟩ := (ra.mono f1.hd.le).slt
    exact ⟨a, Z.C, dx, vs, .ref Z.C, true, rfl, rfl, fun w h => h, hs, z.cls, z.isi, z.one, q _ F1 H1 _ p f1 rfl⟩
/-- isinstance(x, T) of plain values -/
@[simp] def D.ty : D → String
  | .non => "NoneType"
  | .bl _ => "bool"
  | .int _ => "int"
  | .str _ => "str"
  | .tup _ => "tuple"
  | .lst _ => "list"
  | _ => "?"
@[simp] def wIsi (T : String) (w : WE) : WE := fun env P => w env fun d => ∃ b, d.ty ≠ "?" ∧ kitB d.ty T = some b ∧ P (.bl b)
theorem tyX_of {B : Addr} {F H : Hp} {d : D} {v : V} (hd : HdOk B F H) (r : Rep Z B F d v) (h : d.ty ≠ "?") : TyX Z.K H v (.type d.ty) := by
  cases d with
  | non => rw [show v = V.non from r]; exact .base .non
  | bl b => rw [show v = V.bl b from r]; exact .base (.bl b)
  | int b => rw [show v = V.int b from r]; exact .base (.int b)
  | str b => rw [show v = V.str b from r]; exact .base (.str b)
  | tup ds =>
    obtain ⟨a, xs, e, hs, _⟩ := r
    subst e
    rcases hs with (hs | ⟨o, hs⟩) | ⟨o, its, n, hk, hc, _⟩
    · exact .base (.tup (hd.le _ _ hs))
    · exact .fTuple (hd.le _ _ hs)
    · exact .kTuple hk hc
  | lst ds =>
    obtain ⟨a, xs, e, hs, _⟩ := r
    subst e
    exact .base (.lst (hd.le _ _ hs))
  | _ => exact absurd rfl h
theorem pd_isi {T : String} {nT : Str} {pi pq : Pos} (hz : Z.K = X.K) (hg : Gl X "isinstance") (hm : X.mg "isinstance" = none) (hgT : Gl X nT) (hmT : X.mg nT = none) (hvT : bootBuiltins nT = some (.type T)) (he : PE X e (tE Z .frz w)) (hn : nT ≠ "__name__" := by decide) (hdb : (nT == ("__debug__" : Str)) = false := by decide)
    (h1 : starEach [e, .Name nT pq] X.env = (false, eval e X.env) :: starEach [.Name nT pq] X.env := by rfl) (h2 : starEach [.Name nT pq] X.env = (false, eval (.Name nT pq) X.env) :: starEach [] X.env := by rfl) (hpl : (backTo pos (starEach [.Name nT pq] X.env)).any (·.1) = false := by rfl) :
    PE X (.Call (.Name "isinstance" pi) [e, .Name nT pq] [] pos) (tE Z .frz (wIsi T w)) :=
  (pe_callB call_isi hg hm boot_isinstance (pa_cons he (pa_cons (pe_bltn hgT hmT hvT (v := .ty T) rfl hn hdb) pa_nil h2) h1) (by decide) (by decide) h1 hpl).imp fun σ H Q ⟨B, H0, F, env, P, hd, sr, hw, q⟩ => by
    refine ⟨B, H0, F, env, _, hd, sr, hw, fun d F1 H1 v p1 f1 r1 => ?_⟩
    obtain ⟨b, h, hk, p⟩ := p1
    exact ⟨v, .ty T, .type d.ty, .type T, b, rfl, .ty T, by rw [← hz]; exact tyX_of f1.hd r1 h, kit_ty hk, q _ F1 H1 _ p f1 rfl⟩
/-- a property of the rows, its getter at level k -/
def PropAt (P : Program) (w : World) (K : PySem.W.Frag) (mg : Str → Option Value) (base : Heap) (Z : Zc) (k : Nat) (x : Str) (wl : WL) : Prop :=
  ∃ p g : Addr, PySem.W.findIn K (.ref Z.C) x = some (some (.ref p)) ∧ PySem.W.specialIn K (.ref p) "__get__" = some (some (.builtin "property.__get__")) ∧ PySem.W.takesIn K (.ref p) = some true ∧
    (∃ rest, PySem.W.recIn K p "property" = some (.ref g :: rest)) ∧ FnR P w K mg base CX0 k g (spD Z wl)
@[simp] def wProp (wl : WL) (w : WE) : WE := fun env P => w env fun d => d.onRow fun ts bs => wl [.row ts bs] P
theorem pd_prop {k kk : Nat} (z : ZOk X.K Z) (c : PropAt X.prog X.w X.K X.mg X.base Z k x wl) (hr : Room kk X.A) (hk : k + 1 ≤ kk) (he : PE X e (tE Z .frz w)) (hb : attributeBase e x X.env (eval e X.env) = eval e X.env := by rfl) : PE X (.Attribute e x pos) (tE Z .frz (wProp wl w)) := by
  obtain ⟨p, g, h1, h2, h3, h4, h5⟩ := c
  refine (SlX.pe_propSl (E := fun _ _ _ => False) he z.cls h1 h2 h3 h4 h5 (hr.mono hk) (fun _ _ _ _ h => h) hb).imp fun σ H Q ⟨B, H0, F, env, P, hd, sr, hw, q⟩ => ?_
  refine ⟨B, H0, F, env, _, hd, sr, hw, fun d F1 H1 v p1 f1 r1 => ?_⟩
  obtain ⟨ts, bs, e1, p⟩ := D.onRow_ex p1
  subst e1
  obtain ⟨a, ea, ra⟩ := id r1
  obtain ⟨dx, vs, hs⟩ := (ra.mono f1.hd.le).slt
  subst ea
  exact ⟨a, dx, vs, rfl, hs, B, F1, _, P, f1.hd, Reps.cons r1 Reps.nil, p, fun d F' H' v p f r => q d F' H' v p (Fr.trans hd f1 f) r⟩
/-- a method of the rows -/
def MethAt (P : Program) (w : World) (K : PySem.W.Frag) (mg : Str → Option Value) (base : Heap) (Z : Zc) (k : Nat) (x : Str) (wl : WL) : Prop :=
  ∃ g : Addr, Meth K Z.C x g ∧ FnR P w K mg base CX0 k g (spD Z wl)
@[simp] def wMeth (wl : WL) (w : WE) (ws : WA) : WE := fun env P => w env fun d => d.onRow fun ts bs => ws env fun ds => wl (.row ts bs :: ds) P
theorem pd_meth {k kk : Nat} {pl : Sem Bool} (z : ZOk X.K Z) (c : MethAt X.prog X.w X.K X.mg X.base Z k m wl) (hr : Room kk X.A) (hk : k ≤ kk) (he : PE X o (tE Z .frz w)) (ha : PA X (e :: es) (tA Z .frz ws))
    (hst : starEach (e :: es) X.env = (false, eval e X.env) :: starEach es X.env := by rfl) (hpl : (backTo pos (starEach es X.env)).any (·.1) = false := by rfl)
    (ht : eval (.Call (.Attribute o m apos) (e :: es) [] pos) X.env = (do
      let ov ← eval o X.env
      standAt apos.atName
      let (f, first) ← holding [ov] (getMethod ov m pl)
      callWith pos f first (backTo pos (starEach (e :: es) X.env)) (backToKw pos (keywordEach [] X.env))) := by rfl) : PE X (.Call (.Attribute o m apos) (e :: es) [] pos) (tE Z .frz (wMeth wl w ws)) := by
  obtain ⟨g, hm, F⟩ := c
  refine (SlX.pe_methSl (pl := pl) (E := fun _ _ _ => False) he z.cls hm F (hr.mono hk) pass0 ha hst hpl ht).imp fun σ H Q ⟨B, H0, F, env, P, hd, sr, hw, q⟩ => ?_
  refine ⟨B, H0, F, env, _, hd, sr, hw, fun d F1 H1 v p1 f1 r1 => ?_⟩
  obtain ⟨ts, bs, e1, p⟩ := D.onRow_ex p1
  subst e1
  obtain ⟨a, ea, ra⟩ := id r1
  obtain ⟨dx, vs, hs⟩ := (ra.mono f1.hd.le).slt
  subst ea
  refine ⟨a, dx, vs, rfl, hs, B, H0, F1, env, _, f1.hd, sr.step hd f1, p, fun ds F2 H2 us p2 f2 r2 => ?_⟩
  exact ⟨B, F2, _, P, f2.hd, Reps.cons (Rep.mono (f2.leF f1.hd) r1) r2, p2, fun d F' H' v p f r => q d F' H' v p (Fr.trans hd (Fr.trans hd f1 f2) f) r⟩
theorem pd_meth0 {k kk : Nat} {pl : Sem Bool} (z : ZOk X.K Z) (c : MethAt X.prog X.w X.K X.mg X.base Z k m wl) (hr : Room kk X.A) (hk : k ≤ kk) (he : PE X o (tE Z .frz w))
    (ht : eval (.Call (.Attribute o m apos) [] [] pos) X.env = (do
      let ov ← eval o X.env
      standAt apos.atName
      let (f, first) ← holding [ov] (getMethod ov m pl)
      callWith pos f first (backTo pos (starEach [] X.env)) (backToKw pos (keywordEach [] X.env))) := by rfl) : PE X (.Call (.Attribute o m apos) [] [] pos) (tE Z .frz (wProp wl w)) := by
  obtain ⟨g, hm, F⟩ := c
  refine (SlX.pe_methSl0 (pl := pl) (E := fun _ _ _ => False) he z.cls hm F (hr.mono hk) pass0 ht).imp fun σ H Q ⟨B, H0, F, env, P, hd, sr, hw, q⟩ => ?_
  refine ⟨B, H0, F, env, _, hd, sr, hw, fun d F1 H1 v p1 f1 r1 => ?_⟩
  obtain ⟨ts, bs, e1, p⟩ := D.onRow_ex p1
  subst e1
  obtain ⟨a, ea, ra⟩ := id r1
  obtain ⟨dx, vs, hs⟩ := (ra.mono f1.hd.le).slt
  subst ea
  exact ⟨a, dx, vs, rfl, hs, B, F1, _, P, f1.hd, Reps.cons r1 Reps.nil, p, fun d F' H' v p f r => q d F' H' v p (Fr.trans hd f1 f) r⟩
/-- a row is made: the promise of its __init__ -/
def spInit (Z : Zc) (Ok : List Int → List Int → Prop) : Sp := fun vs H Q _ => ∃ B F H1 x dx v1 v2 ts bs, vs = [.ref x, v1, v2] ∧ H = upd (upd H1 dx (.own x)) x (.ins Z.C dx []) ∧ H1 x = none ∧ H1 dx = none ∧ dx ≠ x ∧ HdOk B F H1 ∧
  Rep Z B F (.tup (ts.map .int)) v1 ∧ Rep Z B F (.tup (bs.map .int)) v2 ∧ Ok ts bs ∧ ∀ F' H', Fr B H1 F H' F' → RowAt Z F' x ts bs → Q .non H'
def MakeAt (P : Program) (w : World) (K : PySem.W.Frag) (mg : Str → Option Value) (base : Heap) (Z : Zc) (k : Nat) (Ok : List Int → List Int → Prop) : Prop :=
  ∃ f : Addr, Mk K Z.C f ∧ mg "Quotient" = some (.ref Z.C) ∧ FnR P w K mg base CX0 k f (spInit Z Ok)
@[simp] def wMake (Ok : List Int → List Int → Prop) (wa wb : WE) : WE := fun env P => wa env fun d1 => wb env fun d2 => ∃ ts bs, d1 = .tup (ts.map .int) ∧ d2 = .tup (bs.map .int) ∧ Ok ts bs ∧ P (.row ts bs)
theorem pd_make {a b : Expr} {k kk : Nat} {Ok : List Int → List Int → Prop} (c : MakeAt X.prog X.w X.K X.mg X.base Z k Ok) (hr : Room kk X.A) (hk : k + 1 ≤ kk) (hg : Gl X "Quotient") (ha : PE X a (tE Z .frz wa)) (hb : PE X b (tE Z .frz wb))
    (h1 : starEach [a, b] X.env = (false, eval a X.env) :: starEach [b] X.env := by rfl) (h2 : starEach [b] X.env = (false, eval b X.env) :: starEach [] X.env := by rfl) (hpl : (backTo pos (starEach [b] X.env)).any (·.1) = false := by rfl) :
    PE X (.Call (.Name "Quotient" p) [a, b] [] pos) (tE Z .frz (wMake Ok wa wb)) := by
  obtain ⟨f, M, hm, F⟩ := c
  refine (StX.pe_makeR (E := fun _ _ _ => False) M F (hr.mono hk) hg hm pass0 (pa_cons ha (pa_cons hb pa_nil h2) h1) (by decide) h1 hpl).imp fun σ H Q ⟨B, H0, F, env, P, hd, sr, hw, q⟩ => ?_
  refine ⟨B, H0, F, env, _, hd, sr, hw, fun d1 F1 H1 v1 p1 f1 r1 => ?_⟩
  refine ⟨B, H0, F1, env, _, f1.hd, sr.step hd f1, p1, fun d2 F2 H2 v2 p2 f2 r2 => ?_⟩
  obtain ⟨ts, bs, e1, e2, ok, p⟩ := p2
  subst e1
  subst e2
  intro x dx hx hdx ne
  exact ⟨B, F2, H2, x, dx, v1, v2, ts, bs, rfl, rfl, hx, hdx, ne, f2.hd, Rep.mono (f2.leF f1.hd) r1, r2, ok, fun F' H' f r => ⟨rfl, q _ F' H' _ p (Fr.trans hd (Fr.trans hd f1 f2) f) ⟨x, rfl, r⟩⟩⟩

/-! ### enumerate, items -/
@[simp] def wIEnum (w : WE) : WI := fun env P => w env fun d => ∃ ds, d = .lst ds ∧ P ((List.range ds.length).zipWith (fun (i : Nat) d => .tup [.int i, d]) ds)
theorem enum_get (ds : List D) (i : Nat) {d : D} (h : ((List.range ds.length).zipWith (fun (i : Nat) d => D.tup [.int i, d]) ds)[i]? = some d) : ∃ y, ds[i]? = some y ∧ d = .tup [.int i, y] := by
  rw [List.getElem?_zipWith] at h
  by_cases hi : i < ds.length
  · rw [List.getElem?_eq_getElem (by simpa using hi), List.getElem?_eq_getElem hi, List.getElem_range] at h
    cases h
    exact ⟨_, List.getElem?_eq_getElem hi, rfl⟩
  · rw [List.getElem?_eq_none (by simpa using hi)] at h
    cases h
theorem ite_ok {B a : Addr} {F : Hp} {xs : List V} {ds : List D} (K : PySem.W.Frag) (h : F a = some (.lst xs)) (r : Reps Z B F ds xs) : ItOk Z B (Ite K a) F ((List.range ds.length).zipWith (fun (i : Nat) d => .tup [.int i, d]) ds) := fun F2 H2 le hd => by
  have h2 : SqL K H2 a xs := SqL.of (hd.le _ _ (le _ _ h))
  have hl : ((List.range ds.length).zipWith (fun (i : Nat) d => D.tup [.int i, d]) ds).length = ds.length := by simp
  refine ⟨fun i hi => ?_, fun i hi => ⟨xs, h2, by rw [r.length, ← hl]; exact hi⟩, fun i d hd' x H' y => ?_⟩
  · have : i < xs.length := by rw [r.length, ← hl]; exact hi
    exact ⟨xs, xs[i], h2, List.getElem?_eq_getElem this⟩
  · obtain ⟨t, z, e1, ht, e2, y⟩ := y
    subst e1
    subst e2
    obtain ⟨dy, g, e3⟩ := enum_get ds i hd'
    subst e3
    obtain ⟨v, e4, r1⟩ := r.get g
    have e5 := y xs h2
    rw [e4] at e5
    cases e5
    exact ⟨upd F2 t _, Fr.laid hd ht, t, _, rfl, SqT.of upd_same, Reps.cons rfl (Reps.cons ((r1.mono le).mono (le_upd (hd.noneF ht))) Reps.nil)⟩
theorem pd_ienum {elts : List Expr} {kk : Nat} {tpos : Pos} (hg : Gl X "enumerate") (hm : X.mg "enumerate" = none) (he : PE X e (tE Z .frz w)) (hs : starEach [e] X.env = [(false, eval e X.env)] := by rfl) (hs2 : starEach [e] X.env = (false, eval e X.env) :: starEach [] X.env := by rfl) :
    PI X (.Tuple elts kk tpos) (.Call (.Name "enumerate" p) [e] [] pos) (tI Z (wIEnum w)) :=
  (pi_enum hg hm (pa_cons he pa_nil hs2) hs).imp fun σ H R ⟨B, H0, F, env, P, hd, sr, hw, q⟩ => by
    refine ⟨B, H0, F, env, _, hd, sr, hw, fun d F' H' v p f r => ?_⟩
    obtain ⟨ds, e1, p⟩ := p
    subst e1
    obtain ⟨a, xs, e2, h, rs⟩ := r
    subst e2
    exact ⟨a, xs, rfl, SqL.of (f.hd.le _ _ h), q _ _ F' H' p f (ite_ok _ h rs)⟩
def itemsD (kvs : List (Int × Int)) : List D := kvs.map fun p => .tup [.int p.1, .int p.2]
@[simp] def wIItems (w : WE) : WI := fun env P => w env fun d => ∃ kvs, d = .dicL kvs ∧ P (itemsD kvs)
theorem iti_ok {B a : Addr} {F : Hp} {o : Obj} {kvs : List (Int × Int)} (h : F a = some (.frz o (.dK (encD kvs)))) : ItOk Z B (Iti a o (encD kvs)) F (itemsD kvs) := fun F2 H2 le hd => by
  have h2 := hd.le _ _ (le _ _ h)
  have hl : (encD kvs).length = (itemsD kvs).length := by unfold encD itemsD; rw [List.length_map, List.length_map]
  refine ⟨fun i hi => ⟨h2, by rw [hl]; exact hi⟩, fun i hi => ⟨h2, by rw [hl]; exact hi⟩, fun i d hd' x H' y => ?_⟩
  obtain ⟨t, k, v, e1, e2, ht, e3⟩ := y
  subst e2
  subst e3
  unfold itemsD at hd'
  unfold encD at e1
  rw [List.getElem?_map] at hd' e1
  cases e4 : kvs[i]? with
  | none => rw [e4] at hd'; cases hd'
  | some q =>
    rw [e4] at hd' e1
    cases hd'
    cases e1
    exact ⟨upd F2 t _, Fr.laid hd ht, t, _, rfl, SqT.of upd_same, Reps.cons rfl (Reps.cons rfl Reps.nil)⟩
theorem pd_iitems {elts : List Expr} {kk : Nat} {tpos cpos : Pos} (he : PE X e (tE Z .frz w)) (hbase : attributeBase e "items" X.env (eval e X.env) = eval e X.env := by rfl) (hline : (apos.endLine == cpos.line) = true := by rfl) :
    PI X (.Tuple elts kk tpos) (.Call (.Attribute e "items" apos) [] [] cpos) (tI Z (wIItems w)) :=
  (pi_items he hbase hline).imp fun σ H R ⟨B, H0, F, env, P, hd, sr, hw, q⟩ => by
    refine ⟨B, H0, F, env, _, hd, sr, hw, fun d F' H' v p f r => ?_⟩
    obtain ⟨kvs, e1, p⟩ := p
    subst e1
    obtain ⟨a, o, e2, h⟩ := r
    exact ⟨a, o, _, e2, f.hd.le _ _ h, q _ _ F' H' p f (iti_ok h)⟩
/-- a new dict, locked from now on -/
@[simp] def wLock (w : WE) : WE := fun env P => w env fun d => ∃ kvs, d = .dic kvs ∧ P (.dicL kvs)
theorem pd_lock (he : PE X e (tE Z .new w)) : PE X e (tE Z .frz (wLock w)) := by
  refine ⟨fun pins s σ H Q I ⟨B, H0, F, env, P, hd, sr, hw, q⟩ => ?_⟩
  have h : tE Z .new w σ H (fun v H' => ∃ F' a kvs, P (.dicL kvs) ∧ v = .ref a ∧ H a = none ∧ Fr B H F H' F' ∧ F' a = none ∧ H' a = some (.dK (encD kvs))) :=
    ⟨B, H0, F, env, _, hd, sr, hw, fun d F' H' v p f r => by
      obtain ⟨kvs, e, p⟩ := p
      subst e
      obtain ⟨a, o, ev, ha, hf, ho, t⟩ := r
      rw [show o = _ from t] at ho
      exact ⟨F', a, kvs, p, ev, ha, f, hf, ho⟩⟩
  refine thn (he.run pins s σ H _ I h) fun u s1 ⟨v, H1, I1, rv, F', a, kvs, p, ev, ha, f, hf, ho⟩ => ?_
  subst ev
  obtain ⟨od, I2⟩ := I1.lock ho trivial
  have nb := hd.newB ha
  refine ⟨.ref a, _, I2, rv, q (.dicL kvs) (upd F' a (.frz od (.dK (encD kvs)))) _ _ p ⟨fun b o ne e => ?_, fun b e => ?_, ⟨fun b o e => ?_, ?_, ?_⟩⟩ ⟨a, od, rfl, upd_same⟩⟩
  · rw [upd_ne (ne_of_none e ha)]; exact f.keep b o ne e
  · rw [upd_ne]; exact f.new b e
    intro z; rw [z] at e; exact e ha
  · by_cases z : b = a
    · subst z; rw [upd_same] at e ⊢; exact e
    · rw [upd_ne z] at e ⊢; exact f.hd.le b o e
  · rw [upd_ne (Ne.symm nb)]; exact f.hd.fb
  · obtain ⟨x, y, z, e, q⟩ := f.hd.bag
    exact ⟨x, y, z, by rw [upd_ne (Ne.symm nb)]; exact e, q⟩
end
end DL

namespace DL
open PySem PySem.Spec PyProof.Rows L2

/-! ### dict comprehensions -/
@[simp] def dcD (g : WG) (wt : WT) (wk wv : WE) (env : En) (K : List (Int × Int) → Prop) : List D → List (Int × Int) → Prop
  | [], acc => K acc
  | d :: ds, acc => g d env fun env1 => wt env1 fun b => if b = true then wk env1 fun k => wv env1 fun v => ∃ i j, k = .int i ∧ v = .int j ∧ acc.length < sizeLine ∧ dcD g wt wk wv env K ds (putI acc i j) else dcD g wt wk wv env K ds acc
@[simp] def wDc (wi : WI) (g : WG) (wt : WT) (wk wv : WE) (vs : List Nat) : WE := fun env P => wi env fun ds => dcD g wt wk wv (wipeE env vs) (fun acc => P (.dic acc)) ds []
section
variable {X : Cx} {Z : Zc}
theorem dc_D {wi : WI} {g : WG} {wt : WT} {wk wv : WE} {is : List Nat} {own : List (Str × Nat)} (his : ∀ i ∈ is, i ∈ own.map (·.2)) : ∀ σ H Q, tE Z .new (wDc wi g wt wk wv (own.map (·.2))) σ H Q → tDc (tI Z wi) (tG Z is g) (tT Z wt) (tE Z .frz wk) (tE Z .frz wv) (own.map (·.2)) σ H Q := fun σ H Q ⟨B, H0, F, env, P, hd, sr, hw, q⟩ => by
    refine ⟨B, H0, F, env, _, hd, sr, hw, fun ds J F1 H1 p f iok => ?_⟩
    intro D hD
    have nb := f.hd.newB hD
    have sr1 := (sr.step hd f).wipe (own.map (·.2))
    refine ⟨fun i m H' => m = ds.length - i ∧ i ≤ ds.length ∧ ∃ F' acc, Fr B H1 F1 H' F' ∧ H' D = some (.dK (encD acc)) ∧ F' D = none ∧ dcD g wt wk wv (wipeE env (own.map (·.2))) (fun acc => P (.dic acc)) (ds.drop i) acc,
      ⟨ds.length, rfl, Nat.zero_le _, F1, [], Fr.laidN f.hd hD, upd_same, f.hd.noneF hD, p⟩, ?_⟩
    rintro i m H' ⟨rfl, hi, F', acc, l, lD, lF, k⟩
    obtain ⟨go, stop, yld⟩ := iok F' H' (l.leF f.hd) l.hd
    by_cases hlt : i < ds.length
    · refine .inr ⟨go i hlt, fun H2 => ∃ F2 acc2, Fr B H1 F1 H2 F2 ∧ H2 D = some (.dK (encD acc2)) ∧ F2 D = none ∧ dcD g wt wk wv (wipeE env (own.map (·.2))) (fun acc => P (.dic acc)) (ds.drop (i + 1)) acc2, ?_, ?_⟩
      · rintro H2 ⟨F2, acc2, l2, l2D, l2F, k2⟩
        exact ⟨_, by omega, rfl, hlt, F2, acc2, l2, l2D, l2F, k2⟩
      · intro x H2 y
        obtain ⟨F2, f2, r2⟩ := yld i ds[i] (List.getElem?_eq_getElem hlt) x H2 y
        have st : ∀ {H F H' F' : Hp}, Fr B H F H' F' → H D = some (.dK (encD acc)) → F D = none → H' D = some (.dK (encD acc)) ∧ F' D = none := fun f e1 e2 => ⟨f.keep D _ nb e1, by rw [f.new D (by rw [e1]; simp)]; exact e2⟩
        have l2 := Fr.trans f.hd l f2
        obtain ⟨l2D, l2F⟩ := st f2 lD lF
        rw [List.drop_eq_getElem_cons hlt] at k
        refine ⟨B, H0, F2, _, _, _, f2.hd, sr1.step f.hd l2, r2, k, fun env3 σ3 k3 sr3 o3 => ⟨wipe_off o3 his, ?_⟩⟩
        refine ⟨B, H0, F2, env3, _, f2.hd, sr3, k3, fun b F4 H4 k4 f4 => ?_⟩
        have l4 := Fr.trans f.hd l2 f4
        obtain ⟨l4D, l4F⟩ := st f4 l2D l2F
        cases b with
        | true =>
          rw [if_pos rfl] at k4
          refine ⟨B, H0, F4, env3, _, f4.hd, sr3.step f2.hd f4, k4, fun d F5 H5 v k5 f5 r5 => ?_⟩
          obtain ⟨l5D, l5F⟩ := st f5 l4D l4F
          refine ⟨B, H0, F5, env3, _, f5.hd, (sr3.step f2.hd f4).step f4.hd f5, k5, fun d' F6 H6 v' k6 f6 r6 => ?_⟩
          obtain ⟨l6D, l6F⟩ := st f6 l5D l5F
          obtain ⟨ki, vi, e1, e2, hz, k6⟩ := k6
          subst e1
          subst e2
          rw [show v = V.int ki from r5, show v' = V.int vi from r6]
          refine ⟨encD acc, Sum.inl ki, rfl, l6D, by unfold encD; rw [List.length_map]; exact hz, F6, putI acc ki vi, ?_, ?_, l6F, k6⟩
          · exact (Fr.trans f.hd (Fr.trans f.hd l4 f5) f6).put hD nb l6F
          · rw [putK_enc]; exact upd_same
        | false =>
          rw [if_neg (by decide)] at k4
          exact ⟨F4, acc, l4, l4D, l4F, k4⟩
    · have e : i = ds.length := by omega
      subst e
      rw [List.drop_length] at k
      exact .inl ⟨stop _ (Nat.le_refl _), q _ F' H' _ k (Fr.trans hd f l) (Res.back hd f ⟨D, _, rfl, hD, lF, lD, rfl⟩)⟩
theorem pd_dc {kx vx tg iter : Expr} {ifs : List Expr} {scope : Scope} {own : List (Str × Nat)} {pos : Pos} {wi : WI} {g : WG} {wt : WT} {wk wv : WE} {is : List Nat} (hc : X.calm = true) (hN : X.N.Nodup) (hi : PI X tg iter (tI Z wi)) (ok : BlkOk X.N X.env.scope scope own)
    (hg : ∀ (s : Shared) (H : Hp) (C : Addr) (cl : List (Str × Addr)) (fp : List Addr), PG (X.blk s H scope (compEnvC scope cl C X.env) fp) tg (tG Z is g)) (ht : ∀ (s : Shared) (H : Hp) (C : Addr) (cl : List (Str × Addr)) (fp : List Addr), PTs (X.blk s H scope (compEnvC scope cl C X.env) fp) ifs (tT Z wt))
    (hk : ∀ (s : Shared) (H : Hp) (C : Addr) (cl : List (Str × Addr)) (fp : List Addr), PE (X.blk s H scope (compEnvC scope cl C X.env) fp) kx (tE Z .frz wk))
    (he : ∀ (s : Shared) (H : Hp) (C : Addr) (cl : List (Str × Addr)) (fp : List Addr), PE (X.blk s H scope (compEnvC scope cl C X.env) fp) vx (tE Z .frz wv)) (his : ∀ i ∈ is, i ∈ own.map (·.2)) (hs : ∀ x, foldedSetIterable iter X.env x = pure x := by intro _; rfl) :
    PE X (.DictComp kx vx [⟨tg, iter, ifs, 0⟩] scope pos) (tE Z .new (wDc wi g wt wk wv (own.map (·.2)))) :=
  (pe_dc hc hN hi ok hg ht hk he hs).imp (dc_D his)
/-- {} -/
theorem pd_dnew {pos : Pos} : PE X (.Dict [] [] pos) (tE Z .new (wC (.dic []))) := pe_dnewK.imp fun σ H Q ⟨B, H0, F, env, P, hd, sr, hw, q⟩ d hD =>
  q _ F _ _ hw (Fr.laidN hd hD) ⟨d, _, rfl, hD, hd.noneF hD, upd_same, rfl⟩

/-! ### sorted(xs, reverse=True) -/
variable {e : Expr} {w : WE} {ws : WA} {pos p apos cpos : Pos}
theorem pd_sortRev {j : Nat} {pc kp : Pos} (hg : Gl X "sorted") (hm : X.mg "sorted" = none) (he : PE X e (tE Z .view w))
    (h1 : starEach [e] X.env = (false, eval e X.env) :: starEach [] X.env := by rfl)
    (h2 : backTo pos (starEach [e] X.env) = (false, eval e X.env) :: backTo pos (starEach [] X.env) := by rfl) (hpl : (backTo pos (starEach [e] X.env)).any (·.1) = false := by rfl) :
    PE X (.Call (.Name "sorted" p) [e] [⟨some "reverse", .Constant (.bool true) j pc, kp⟩] pos) (tE Z .new (wSortRev w)) :=
  (pe_callBK (ks := [Str.ofString "reverse"]) (cr_sortedRev (b := true)) hg hm boot_sorted (pa_cons he pa_nil h1) (pk_cons pe_bl pk_nil) (by decide) (by decide) h2 hpl (by rfl) (by rfl) (by rfl)).imp fun σ H Q ⟨B, H0, F, env, P, hd, sr, hw, q⟩ => by
    refine ⟨B, H0, F, env, _, hd, sr, hw, fun d F1 H1 v p1 f1 r1 => ?_⟩
    obtain ⟨ns, e1, p⟩ := p1
    subst e1
    obtain ⟨a, ea, ha⟩ := RepV.lstI f1.hd r1
    subst ea
    refine ⟨a, ns, rfl, rfl, SqL.of ha, fun ns' l h1 h2 hl => ?_⟩
    exact q _ F1 _ _ (p ns' h1 h2) (Fr.trans hd f1 (Fr.laidN f1.hd hl)) (Res.back hd f1 ⟨l, _, rfl, hl, f1.hd.noneF hl, upd_same, _, rfl, Reps.ofInts ns'⟩)

/-! ### list(d.values()) -/
theorem vals_of {kvs : List (Int × Int)} : ∀ {vs : List (Key × Value)}, KV (encD kvs) vs → Vals (kvs.map fun p => V.int p.2) (vs.map (·.2)) := by
  induction kvs with
  | nil => intro vs h; cases h; exact .nil
  | cons k r ih => intro vs h; cases h with
    | cons h1 h2 => exact .cons h1.2 (ih h2)
theorem items_vals {vs : List (Key × Value)} {acc : Array Value} (h : ItemsOf (fun i v => ∃ k, vs[i]? = some (k, v)) acc vs.length) : acc.toList = vs.map (·.2) := by
  refine PySem.W.kdl_vals_eq acc.toList ?_ fun j v hj => ?_
  · rw [Array.length_toList]; exact h.1
  · exact h.2 j v (by rw [← Array.getElem?_toList]; exact hj)
@[simp] def wListVals (w : WE) : WE := fun env P => w env fun d => ∃ kvs, d = .dic kvs ∧ P (.lst (kvs.map fun p => .int p.2))
theorem pd_listVals {a : Expr} (hc : X.calm = true) (hg : Gl X "list") (hm : X.mg "list" = none) (he : PE X a (tE Z .frz w)) (hbase : attributeBase a "values" X.env (eval a X.env) = eval a X.env := by rfl) (hline : (apos.endLine == cpos.line) = true := by rfl)
    (hs : starEach [.Call (.Attribute a "values" apos) [] [] cpos] X.env = (false, eval (.Call (.Attribute a "values" apos) [] [] cpos) X.env) :: starEach [] X.env := by rfl) :
    PE X (.Call (.Name "list" p) [.Call (.Attribute a "values" apos) [] [] cpos] [] pos) (tE Z .new (wListVals w)) := by
  refine ⟨fun pins s σ H Q I ⟨B, H0, F, env, P, hd, sr, hw, q⟩ => ?_⟩
  refine wpAny_Call_Name_kw (ld_blt I hg hm boot_list (PyProof.Rows.callWith_type1 ?_ hs rfl))
  rw [hs]
  show wpAny (model X.prog X.w) X.A (spliced ((false, eval (.Call (.Attribute a "values" apos) [] [] cpos) X.env) :: backTo pos (starEach [] X.env))) _ X.xe s
  refine Calls.spliced_cons ?_
  have key : tE Z .frz w σ H (fun v H1 => ∃ F1 b kvs, P (.lst (kvs.map fun p => .int p.2)) ∧ v = .ref b ∧ Fr B H F H1 F1 ∧ H1 b = some (.dK (encD kvs))) :=
    ⟨B, H0, F, env, _, hd, sr, hw, fun d F' H' v p f r => by
      obtain ⟨kvs, e, p⟩ := p
      subst e
      obtain ⟨b, eb, hb⟩ := r
      exact ⟨F', b, kvs, p, eb, f, f.hd.le _ _ hb⟩⟩
  refine wpAny_Call_method (T := "dict") (id := "dict.values") hbase rfl hline PySem.F.plainAttrs_dict PySem.F.slot_dict_values PySem.F.type_dict_values (thn (he.run pins s σ H _ I key) fun u s1 ⟨x, H1, I1, rx, F1, b, kvs, p, ex, f, hb⟩ => ?_)
  subst ex
  obtain rfl : u = Value.ref b := rx
  obtain ⟨hz, hs0, vs, kv, hdo⟩ := I1.hok b _ hb
  obtain ⟨ep, hat⟩ := hdo.dictAt
  have lk : (encD kvs).length = vs.length := Paired.length kv
  have I2 : Inv X pins σ H1 { s1 with heap := s1.heap.push { cls := .type "dict_values", data := .fields #[.ref b] } } := I1.kept (t' := s1.toks) fun c ob q => Heap.get?_push_of_some _ q
  refine ⟨hdo.typeIs, hdo.mapOf.noDict, ?_⟩
  show wpAny _ _ (callWith cpos (.builtin "dict.values") [.ref b] [] []) _ X.xe s1
  refine method_meetsIn PySem.F.slot_dict_values PySem.F.entry_dict_values rfl (PySem.evalArgs_none ⟨rfl, hdo.typeIs, PySem.F.args_dict_values_1 _, _, meets_dict_values (mixKind X.prog X.w) b hs0, ⟨vs, hdo⟩, ?_⟩)
  refine Calls.spliced_nil ?_
  refine PySem.W.kdl_call (PySem.W.kdl_values (knd := mixKind X.prog X.w) (r := s1.heap.objs.size) (kvs := vs) (ep := ep)) (I1.ok.hd hc) ⟨⟨_, Heap.get?_push_size _ rfl, rfl, rfl⟩, hat.push _⟩ (by omega) fun h' tk acc c hk hS hacc => ?_
  have hv := vals_of kv
  have hl : (kvs.map fun p => V.int p.2).length ≤ sizeLine := by rw [List.length_map]; unfold encD at hz; rw [List.length_map] at hz; exact hz
  have hn := I2.hok.fresh (Nat.le_refl _)
  exact ⟨.ref _, _, I2.laid (t' := tk) hk (Nat.le_refl _) (show ObjOk X.prog X.w _ h' _ (.lst (kvs.map fun p => V.int p.2)) from ⟨hl, acc.toList, c, by rw [items_vals hacc]; exact hv, by rw [Array.toArray_toList]; exact hS⟩), rfl,
    q _ F1 _ _ p (Fr.trans hd f (Fr.laidN f.hd hn)) (Res.back hd f ⟨_, _, rfl, hn, f.hd.noneF hn, upd_same, _, rfl, by have := Reps.ofInts (Z := Z) (B := B) (F := F1) (kvs.map (·.2)); rw [List.map_map, List.map_map] at this; exact this⟩)⟩
end
end DL

namespace DL
open PySem PySem.Spec PyProof.Rows L2
/-- what the top leaves, as far as the law needs it -/
structure Txt (P : Program) (w : World) (K : PySem.W.Frag) (mg : Str → Option Value) (base : Heap) (Z : Zc) : Prop where
  z : ZOk K Z
  h_len : mg "len" = none
  h_sum : mg "sum" = none
  h_max : mg "max" = none
  h_min : mg "min" = none
  h_abs : mg "abs" = none
  h_all : mg "all" = none
  h_any : mg "any" = none
  h_sorted : mg "sorted" = none
  h_list : mg "list" = none
  h_tuple : mg "tuple" = none
  h_int : mg "int" = none
  h_range : mg "range" = none
  h_enumerate : mg "enumerate" = none
  h_isinstance : mg "isinstance" = none
  h_bool : mg "bool" = none
  h_set : mg "set" = none
  c_MAX_PRIME : ∃ u, mg "MAX_PRIME" = some u ∧ RelV (.int 1000000) u
  c_MAX_MEMBER : ∃ u, mg "MAX_MEMBER" = some u ∧ RelV (.int 60) u
  c_MAX_SIDE : ∃ u, mg "MAX_SIDE" = some u ∧ RelV (.int 8) u
  c_MAX_COMMON : ∃ u, mg "MAX_COMMON" = some u ∧ RelV (.int 2520) u
  c_MOST_FACTORIAL : ∃ u, mg "MOST_FACTORIAL" = some u ∧ RelV (.int 600) u
  c_MOST_INDEX : ∃ u, mg "MOST_INDEX" = some u ∧ RelV (.int 1000000000000000000000000000000) u
  c_MAX_BROKEN : ∃ u, mg "MAX_BROKEN" = some u ∧ RelV (.int 100) u
  c_MAX_PRIMED : ∃ u, mg "MAX_PRIMED" = some u ∧ RelV (.int 1000) u
  c_STAIR : ∃ u, mg "STAIR" = some u ∧ RelV (.str "stair") u
  c_EXCESS : ∃ u, mg "EXCESS" = some u ∧ RelV (.str "excess") u
  c_START : ∃ a, mg "START" = some (.ref a) ∧ ∀ F, SqT Z.K F a [.int 0, .int 1]
  c_LAST_END : ∃ a, mg "LAST_END" = some (.ref a) ∧ ∀ F, SqT Z.K F a [.int 1, .int 1]
  c_gcd : mg "gcd" = some (.builtin "math.gcd")
  c_Quotient : mg "Quotient" = some (.ref Z.C)
  d_is_plain : DefAt K mg "is_plain" (topAt 11) ["value"]
  d_is_within : DefAt K mg "is_within" (topAt 13) ["value", "low", "high"]
  d_require_within : DefAt K mg "require_within" (topAt 14) ["value", "low", "high"]
  d_factors_in : DefAt K mg "factors_in" (topAt 15) ["number"]
  d_is_prime_in : DefAt K mg "is_prime_in" (topAt 16) ["number"]
  d_multiple_of : DefAt K mg "multiple_of" (topAt 17) ["numbers"]
  d_is_prime : DefAt K mg "is_prime" (topAt 18) ["value"]
  d_require_prime : DefAt K mg "require_prime" (topAt 19) ["value"]
  d_lowest_of : DefAt K mg "lowest_of" (topAt 21) ["top", "bottom"]
  d_how_often : DefAt K mg "how_often" (topAt 29) ["members", "member"]
  d_left_of : DefAt K mg "left_of" (topAt 30) ["tops", "bottoms"]
  d_tells_row : DefAt K mg "tells_row" (topAt 31) ["tops", "bottoms"]
  d_is_side : DefAt K mg "is_side" (topAt 32) ["value"]
  d_counted : DefAt K mg "counted" (topAt 33) ["tops", "bottoms"]
  d_factorial_of : DefAt K mg "factorial_of" (topAt 35) ["number"]
  d_product_of_factorials : DefAt K mg "product_of_factorials" (topAt 36) ["members", "number"]
  d_require_row : DefAt K mg "require_row" (topAt 41) ["value"]
  d_value_of : DefAt K mg "value_of" (topAt 42) ["row", "number"]
  d_exponent_of_row : DefAt K mg "exponent_of_row" (topAt 43) ["row", "prime", "number"]
  d_jump_in : DefAt K mg "jump_in" (topAt 46) ["row", "number"]
  d_places_over : DefAt K mg "places_over" (topAt 47) ["common", "number"]
  d_stairs_in : DefAt K mg "stairs_in" (topAt 48) ["row"]
  d_depths_in : DefAt K mg "depths_in" (topAt 49) ["row"]
  d_least_depth : DefAt K mg "least_depth" (topAt 50) ["row"]
  d_fault_in : DefAt K mg "fault_in" (topAt 57) ["row"]
  d_is_whole_in : DefAt K mg "is_whole_in" (topAt 58) ["row"]
  d_is_whole : DefAt K mg "is_whole" (topAt 59) ["row"]
  d_fault : DefAt K mg "fault" (topAt 60) ["row"]
  d_primes_up_to : DefAt K mg "primes_up_to" (topAt 61) ["number"]
  d_broken_in : DefAt K mg "broken_in" (topAt 62) ["row", "number"]
  d_is_broken_in : DefAt K mg "is_broken_in" (topAt 63) ["row", "number"]
  d_first_broken : DefAt K mg "first_broken" (topAt 64) ["row", "number"]
  d_broken_primes : DefAt K mg "broken_primes" (topAt 65) ["row", "number"]
  d_exponents_at : DefAt K mg "exponents_at" (topAt 66) ["row", "number"]
  d_witness_by : DefAt K mg "witness_by" (topAt 67) ["broken", "prime"]
  d_witness : DefAt K mg "witness" (topAt 68) ["row", "prime"]
  d_is_witness : DefAt K mg "is_witness" (topAt 69) ["row", "prime", "value"]
  d__law_grab : DefAt K mg "_law_grab" (topAt 72) ["_law_bag_here", "_law_total"]
  d__law_one_of : DefAt K mg "_law_one_of" (topAt 73) ["_law_bag_here", "_law_items"]
  d__law_without_shared : DefAt K mg "_law_without_shared" (topAt 74) ["_law_tops", "_law_bottoms"]
  d__law_is_row_let : DefAt K mg "_law_is_row_let" (topAt 75) ["_law_tops", "_law_bottoms"]
  d__law_told_balanced : DefAt K mg "_law_told_balanced" (topAt 76) ["_law_bag_here"]
  d__law_any_balanced : DefAt K mg "_law_any_balanced" (topAt 77) ["_law_bag_here"]
  d__law_row_drawn : DefAt K mg "_law_row_drawn" (topAt 78) ["_law_bag_here"]
  d__law_common : DefAt K mg "_law_common" (topAt 79) ["_law_numbers"]
  d__law_multiple : DefAt K mg "_law_multiple" (topAt 80) ["_law_numbers"]
  d__law_lowest : DefAt K mg "_law_lowest" (topAt 81) ["_law_top", "_law_bottom"]
  d__law_factorial : DefAt K mg "_law_factorial" (topAt 82) ["_law_number"]
  d__law_number_of : DefAt K mg "_law_number_of" (topAt 83) ["_law_tops", "_law_bottoms", "_law_number"]
  d__law_exponent : DefAt K mg "_law_exponent" (topAt 84) ["_law_tops", "_law_bottoms", "_law_prime", "_law_number"]
  d__law_is_prime : DefAt K mg "_law_is_prime" (topAt 85) ["_law_number"]
  d__law_next_prime : DefAt K mg "_law_next_prime" (topAt 86) ["_law_number"]
  d__law_depth : DefAt K mg "_law_depth" (topAt 87) ["_law_tops", "_law_bottoms", "_law_ratio"]
  d__law_by_size : DefAt K mg "_law_by_size" (topAt 88) ["_law_ratios"]
  d__law_stairs : DefAt K mg "_law_stairs" (topAt 89) ["_law_tops", "_law_bottoms"]
  d__law_is_whole : DefAt K mg "_law_is_whole" (topAt 90) ["_law_tops", "_law_bottoms"]
  d__law_fault_due : DefAt K mg "_law_fault_due" (topAt 91) ["_law_tops", "_law_bottoms"]
  d__law_broken_at : DefAt K mg "_law_broken_at" (topAt 92) ["_law_tops", "_law_bottoms", "_law_number"]
  d__law_numbers_right : DefAt K mg "_law_numbers_right" (topAt 93) ["_law_row", "_law_tops", "_law_bottoms", "_law_most"]
  d__law_witness_right : DefAt K mg "_law_witness_right" (topAt 94) ["_law_bag_here", "_law_row", "_law_tops", "_law_bottoms", "_law_due"]
  d__law_great_right : DefAt K mg "_law_great_right" (topAt 95) ["_law_bag_here", "_law_row", "_law_tops", "_law_bottoms"]
  d__law_right : DefAt K mg "_law_right" (topAt 96) ["_law_bag_here"]
  d_side_text : DefAt K mg "side_text" (topAt 34) ["members"]
  d__law_bag : DefAt K mg "_law_bag" (topAt 71) ["_law_script", "_law_spot"]
  d_law : DefAt K mg "law" (topAt 97) ["_law_script"]
  p_greatest : ∃ p f : Addr, PySem.W.findIn K (.ref Z.C) "greatest" = some (some (.ref p)) ∧ PySem.W.specialIn K (.ref p) "__get__" = some (some (.builtin "property.__get__")) ∧ PySem.W.takesIn K (.ref p) = some true ∧
    (∃ rest, PySem.W.recIn K p "property" = some (.ref f :: rest)) ∧ FnAt K "greatest" "Quotient.greatest" (clsAt 38 7) ["self"] f
  p_common : ∃ p f : Addr, PySem.W.findIn K (.ref Z.C) "common" = some (some (.ref p)) ∧ PySem.W.specialIn K (.ref p) "__get__" = some (some (.builtin "property.__get__")) ∧ PySem.W.takesIn K (.ref p) = some true ∧
    (∃ rest, PySem.W.recIn K p "property" = some (.ref f :: rest)) ∧ FnAt K "common" "Quotient.common" (clsAt 38 8) ["self"] f
  p_excess : ∃ p f : Addr, PySem.W.findIn K (.ref Z.C) "excess" = some (some (.ref p)) ∧ PySem.W.specialIn K (.ref p) "__get__" = some (some (.builtin "property.__get__")) ∧ PySem.W.takesIn K (.ref p) = some true ∧
    (∃ rest, PySem.W.recIn K p "property" = some (.ref f :: rest)) ∧ FnAt K "excess" "Quotient.excess" (clsAt 38 9) ["self"] f
  m_value : ∃ f : Addr, Meth K Z.C "value" f ∧ FnAt K "value" "Quotient.value" (clsAt 38 12) ["self", "number"] f
  m_exponent : ∃ f : Addr, Meth K Z.C "exponent" f ∧ FnAt K "exponent" "Quotient.exponent" (clsAt 38 13) ["self", "prime", "number"] f
  m_exchanged : ∃ f : Addr, Meth K Z.C "exchanged" f ∧ FnAt K "exchanged" "Quotient.exchanged" (clsAt 38 16) ["self"] f
  init : ∃ f : Addr, Mk K Z.C f ∧ FnAt K "__init__" "Quotient.__init__" (clsAt 38 1) ["self", "tops", "bottoms"] f
  s_own_all : ∃ p, SlX.Slot1 K Z.C "own_all" p 0
  s_own_bottoms : ∃ p, SlX.Slot1 K Z.C "own_bottoms" p 1
  s_own_members : ∃ p, SlX.Slot1 K Z.C "own_members" p 2
  s_own_pairs : ∃ p, SlX.Slot1 K Z.C "own_pairs" p 3
  s_own_text : ∃ p, SlX.Slot1 K Z.C "own_text" p 4
  s_own_tops : ∃ p, SlX.Slot1 K Z.C "own_tops" p 5
end DL

namespace DL
open PySem PySem.Spec PyProof.Rows L2
theorem rngD_zero (lo : Int) : rngD lo 0 = [] := rfl
theorem rngD_succ (lo : Int) (n : Nat) : rngD lo (n + 1) = .int lo :: rngD (lo + 1) n := by
  unfold rngD
  rw [List.range_succ_eq_map, List.map_cons, List.map_map]
  congr 1
  · congr 1; simp
  · apply List.map_congr_left
    intro i _
    simp only [Function.comp]
    congr 1
    rw [Int.natCast_succ]; omega
/-- the ints that a range gives -/
def rngI (lo : Int) (n : Nat) : List Int := (List.range n).map fun (i : Nat) => lo + i
theorem rngD_eq (lo : Int) (n : Nat) : rngD lo n = (rngI lo n).map D.int := by
  unfold rngD rngI; rw [List.map_map]; rfl
theorem rngI_len (lo : Int) (n : Nat) : (rngI lo n).length = n := by unfold rngI; simp
theorem mem_rngI {lo x : Int} {n : Nat} : x ∈ rngI lo n ↔ lo ≤ x ∧ x < lo + n := by
  unfold rngI
  rw [List.mem_map]
  constructor
  · rintro ⟨i, h, rfl⟩
    have := List.mem_range.mp h
    omega
  · intro h
    exact ⟨(x - lo).toNat, List.mem_range.mpr (by omega), by omega⟩
theorem rngI_succ (lo : Int) (n : Nat) : rngI lo (n + 1) = lo :: rngI (lo + 1) n := by
  unfold rngI
  rw [List.range_succ_eq_map, List.map_cons, List.map_map]
  congr 1
  · simp
  · apply List.map_congr_left
    intro i _
    simp only [Function.comp]
    rw [Int.natCast_succ]; omega
theorem rngI_succ' (lo : Int) (n : Nat) : rngI lo (n + 1) = rngI lo n ++ [lo + n] := by
  unfold rngI
  rw [List.range_succ, List.map_append]; rfl
/-- a comprehension of pure parts -/
theorem lc_pure {α : Type} {g : WG} {wt : WT} {we : WE} {env : En} {K : List D → Prop} (f : α → D) (c : α → Bool) (h : α → D) : ∀ (xs : List α) (acc : List D),
    (∀ x ∈ xs, ∀ (K1 : D → Prop) (K0 : Prop), (c x = true → K1 (h x)) → (c x = false → K0) → g (f x) env fun env1 => wt env1 fun b => if b = true then we env1 K1 else K0) →
    acc.length + xs.length ≤ sizeLine → K (acc ++ (xs.filter c).map h) → lcD g wt we env K (xs.map f) acc
  | [], acc, _, _, k => by simpa using k
  | x :: xs, acc, hx, hl, k => by
    have hl' : acc.length + xs.length + 1 ≤ sizeLine := hl
    show g (f x) env fun env1 => wt env1 fun b => if b = true then we env1 fun y => acc.length < sizeLine ∧ lcD g wt we env K (xs.map f) (acc ++ [y]) else lcD g wt we env K (xs.map f) acc
    refine hx x List.mem_cons_self _ _ (fun e => ⟨by omega, ?_⟩) fun e => ?_
    · refine lc_pure f c h xs _ (fun y hy => hx y (List.mem_cons_of_mem _ hy)) (by rw [List.length_append, List.length_singleton]; omega) ?_
      rw [List.filter_cons, if_pos e, List.map_cons] at k
      rw [List.append_assoc]; exact k
    · refine lc_pure f c h xs _ (fun y hy => hx y (List.mem_cons_of_mem _ hy)) (by omega) ?_
      rw [List.filter_cons, if_neg (by rw [e]; decide)] at k
      exact k
/-- .. without a test -/
theorem lc_map {α : Type} {g : WG} {we : WE} {env : En} {K : List D → Prop} (f h : α → D) (xs : List α)
    (hx : ∀ x ∈ xs, ∀ K1 : D → Prop, K1 (h x) → g (f x) env fun env1 => we env1 K1) (hl : xs.length ≤ sizeLine) (k : K (xs.map h)) : lcD g wYes we env K (xs.map f) [] := by
  refine lc_pure f (fun _ => true) h xs [] (fun x hx' K1 K0 h1 _ => ?_) (by simpa using hl) ?_
  · show g (f x) env fun env1 => if true = true then we env1 K1 else K0
    simp only [if_true]
    exact hx x hx' K1 (h1 rfl)
  · rw [List.filter_eq_self.mpr fun _ _ => rfl]; exact k
/-- a comprehension without a test whose parts draw from the bag: J tells what is known of the items made -/
theorem lc_any {α : Type} {g : WG} {we : WE} {env : En} {K : List D → Prop} (f : α → D) (J : D → Prop) : ∀ (xs : List α) (acc : List D),
    (∀ x ∈ xs, ∀ K1 : D → Prop, (∀ d, J d → K1 d) → g (f x) env fun env1 => we env1 K1) → acc.length + xs.length ≤ sizeLine → (∀ ys : List D, ys.length = xs.length → (∀ y ∈ ys, J y) → K (acc ++ ys)) → lcD g wYes we env K (xs.map f) acc
  | [], acc, _, _, k => by simpa using k [] rfl (fun _ h => by cases h)
  | x :: xs, acc, hx, hl, k => by
    have hl' : acc.length + xs.length + 1 ≤ sizeLine := hl
    show g (f x) env fun env1 => if true = true then we env1 fun y => acc.length < sizeLine ∧ lcD g wYes we env K (xs.map f) (acc ++ [y]) else lcD g wYes we env K (xs.map f) acc
    simp only [if_true]
    refine hx x List.mem_cons_self _ fun d hd => ⟨by omega, ?_⟩
    refine lc_any f J xs _ (fun y hy => hx y (List.mem_cons_of_mem _ hy)) (by rw [List.length_append, List.length_singleton]; omega) fun ys e hy => ?_
    rw [List.append_assoc]
    exact k (d :: ys) (by simp [e]) fun y h => by
      rcases List.mem_cons.mp h with rfl | h
      · exact hd
      · exact hy y h
@[simp] theorem aTwo_eq (g : Int → Int → Int) (i j : Int) (P : D → Prop) : aTwo g [.int i, .int j] P = P (.int (g i j)) := by
  unfold aTwo
  apply propext
  constructor
  · rintro ⟨a, b, e, p⟩; cases e; exact p
  · exact fun p => ⟨i, j, rfl, p⟩
@[simp] theorem aAbs_eq (i : Int) (P : D → Prop) : aAbs [.int i] P = P (.int (if i < 0 then -i else i)) := by
  unfold aAbs
  apply propext
  constructor
  · rintro ⟨a, e, p⟩; cases e; exact p
  · exact fun p => ⟨i, rfl, p⟩
@[simp] theorem aInt_eq (i : Int) (P : D → Prop) : aInt [.int i] P = P (.int i) := by
  unfold aInt
  apply propext
  constructor
  · rintro (⟨a, e, p⟩ | ⟨a, e, p⟩)
    · cases e; exact p
    · cases e
  · exact fun p => .inl ⟨i, rfl, p⟩
@[simp] theorem aInt_eqb (i : Bool) (P : D → Prop) : aInt [.bl i] P = P (.int (if i then 1 else 0)) := by
  unfold aInt
  apply propext
  constructor
  · rintro (⟨a, e, p⟩ | ⟨a, e, p⟩)
    · cases e
    · cases e; exact p
  · exact fun p => .inr ⟨i, rfl, p⟩
@[simp] theorem aLen_l (xs : List D) (P : D → Prop) : aLen [.lst xs] P = P (.int xs.length) := by
  unfold aLen
  apply propext
  constructor
  · rintro ⟨a, b, e, h, p⟩; cases e; cases h; exact p
  · exact fun p => ⟨_, _, rfl, rfl, p⟩
@[simp] theorem aLen_t (xs : List D) (P : D → Prop) : aLen [.tup xs] P = P (.int xs.length) := by
  unfold aLen
  apply propext
  constructor
  · rintro ⟨a, b, e, h, p⟩; cases e; cases h; exact p
  · exact fun p => ⟨_, _, rfl, rfl, p⟩
@[simp] theorem aList_l (xs : List D) (P : D → Prop) : aList [.lst xs] P = P (.lst xs) := by
  unfold aList
  apply propext
  constructor
  · rintro ⟨a, b, e, h, p⟩; cases e; cases h; exact p
  · exact fun p => ⟨_, _, rfl, rfl, p⟩
@[simp] theorem aList_t (xs : List D) (P : D → Prop) : aList [.tup xs] P = P (.lst xs) := by
  unfold aList
  apply propext
  constructor
  · rintro ⟨a, b, e, h, p⟩; cases e; cases h; exact p
  · exact fun p => ⟨_, _, rfl, rfl, p⟩
@[simp] theorem aTuple_l (xs : List D) (P : D → Prop) : aTuple [.lst xs] P = P (.tup xs) := by
  unfold aTuple
  apply propext
  constructor
  · rintro ⟨a, b, e, h, p⟩; cases e; cases h; exact p
  · exact fun p => ⟨_, _, rfl, rfl, p⟩
@[simp] theorem aTuple_t (xs : List D) (P : D → Prop) : aTuple [.tup xs] P = P (.tup xs) := by
  unfold aTuple
  apply propext
  constructor
  · rintro ⟨a, b, e, h, p⟩; cases e; cases h; exact p
  · exact fun p => ⟨_, _, rfl, rfl, p⟩
@[simp] theorem aRep_eq (x : D) (k : Int) (P : D → Prop) : aRep (.lst [x]) (.int k) P = ((k.toNat ≤ sizeLine ∧ k < 2 ^ 63 ∧ -(2 ^ 63) ≤ k) ∧ P (.lst (List.replicate k.toNat x))) := by
  unfold aRep
  apply propext
  constructor
  · rintro ⟨_, _, e, e2, h1, h2, h3, p⟩
    cases e; cases e2; exact ⟨⟨h1, h2, h3⟩, p⟩
  · exact fun p => ⟨_, _, rfl, rfl, p.1.1, p.1.2.1, p.1.2.2, p.2⟩
@[simp] theorem sz1 : (1 ≤ sizeLine) = True := by decide
@[simp] theorem sz2 : (2 ≤ sizeLine) = True := by decide
@[simp] theorem sz3 : (3 ≤ sizeLine) = True := by decide
@[simp] theorem sz4 : (4 ≤ sizeLine) = True := by decide
@[simp] theorem sz5 : (5 ≤ sizeLine) = True := by decide
@[simp] theorem sz8 : (8 ≤ sizeLine) = True := by decide
@[simp] theorem atI0 {α : Type} (a : α) (r : List α) : atI (a :: r) 0 = some a := by
  unfold atI ixN
  rw [if_pos (by decide), if_pos (by simp)]; rfl
@[simp] theorem atI1 {α : Type} (a b : α) (r : List α) : atI (a :: b :: r) 1 = some b := by
  unfold atI ixN
  rw [if_pos (by decide), if_pos (by simp only [List.length_cons]; omega)]; rfl
theorem size_big : 1000000 ≤ sizeLine := by decide
/-- bounds for the operators -/
theorem mulW_of {i j : Int} {a b : Nat} (ha : i.natAbs < 2 ^ a) (hb : j.natAbs < 2 ^ b) (h0 : 0 < a := by decide) (h1 : 0 < b := by decide) (h : a + b ≤ 1000000 := by decide) : CMulW i j := wide_mul ha hb h0 h1 h
theorem divW_of {i j : Int} {b : Nat} (h : 0 < j) (hb : j.natAbs < 2 ^ b) (h0 : 0 < b := by decide) (h9 : b ≤ 9000 := by decide) : CDivW i j := wide_div h hb h0 h9
/-- equality of scalars -/
@[simp] theorem cmp_int (i : Int) : (D.int i).cmp := ⟨rfl, rfl⟩
@[simp] theorem cmp_bl (i : Bool) : (D.bl i).cmp := ⟨rfl, rfl⟩
@[simp] theorem cmp_non : (D.non).cmp := ⟨rfl, rfl⟩
@[simp] theorem eqv_int (i j : Int) : PyData.eqv (D.int i).py (D.int j).py = decide (i = j) := by
  show (i == j) = _
  rw [Bool.eq_iff_iff]; simp
@[simp] theorem eqv_bl (i j : Bool) : PyData.eqv (D.bl i).py (D.bl j).py = decide (i = j) := by
  show (i == j) = _
  rw [Bool.eq_iff_iff]; simp
mutual
theorem canLay_ints : ∀ ns : List Int, PyData.canLayAll0 (pys (ns.map D.int)) = true
  | [] => rfl
  | n :: ns => by
    show (PyData.canLay0 (.int n) && PyData.canLayAll0 (pys (ns.map D.int))) = true
    rw [canLay_ints ns]; rfl
end
theorem pys_ints : ∀ ns : List Int, pys (ns.map D.int) = ns.map PyData.int
  | [] => rfl
  | n :: ns => by show D.py (.int n) :: pys (ns.map D.int) = _; rw [pys_ints ns]; rfl
theorem plains_ints : ∀ ns : List Int, plains (ns.map D.int) = true
  | [] => rfl
  | n :: ns => by show (D.plain (.int n) && plains (ns.map D.int)) = true; rw [plains_ints ns]; rfl
theorem cmp_lstI (ns : List Int) : (D.lst (ns.map D.int)).cmp := by
  refine ⟨plains_ints ns, ?_⟩
  show (PyData.canLayAll0 (pys (ns.map D.int)) && decide (PyData.depth (.list (pys (ns.map D.int))) ≤ 64)) = true
  rw [canLay_ints, pys_ints]
  have : PyData.depth (.list (ns.map PyData.int)) ≤ 64 := by
    show PyData.depthAll (ns.map PyData.int) + 1 ≤ 64
    rw [depth_ints]; decide
  rw [decide_eq_true this]; rfl
theorem cmp_tupI (ns : List Int) : (D.tup (ns.map D.int)).cmp := by
  refine ⟨plains_ints ns, ?_⟩
  show (PyData.canLayAll0 (pys (ns.map D.int)) && decide (PyData.depth (.tuple (pys (ns.map D.int))) ≤ 64)) = true
  rw [canLay_ints, pys_ints]
  have : PyData.depth (.tuple (ns.map PyData.int)) ≤ 64 := by
    show PyData.depthAll (ns.map PyData.int) + 1 ≤ 64
    rw [depth_ints]; decide
  rw [decide_eq_true this]; rfl
theorem eqvAll_ints : ∀ ns ms : List Int, PyData.eqvAll (ns.map PyData.int) (ms.map PyData.int) = decide (ns = ms)
  | [], [] => rfl
  | [], _ :: _ => rfl
  | _ :: _, [] => rfl
  | n :: ns, m :: ms => by
    show (PyData.eqv (.int n) (.int m) && PyData.eqvAll (ns.map PyData.int) (ms.map PyData.int)) = _
    rw [eqvAll_ints ns ms]
    show ((n == m) && _) = _
    rw [Bool.eq_iff_iff]; simp
theorem eqv_lstI (ns ms : List Int) : PyData.eqv (D.lst (ns.map D.int)).py (D.lst (ms.map D.int)).py = decide (ns = ms) := by
  show PyData.eqvAll (pys (ns.map D.int)) (pys (ms.map D.int)) = _
  rw [pys_ints, pys_ints, eqvAll_ints]
theorem eqv_tupI (ns ms : List Int) : PyData.eqv (D.tup (ns.map D.int)).py (D.tup (ms.map D.int)).py = decide (ns = ms) := by
  show PyData.eqvAll (pys (ns.map D.int)) (pys (ms.map D.int)) = _
  rw [pys_ints, pys_ints, eqvAll_ints]
theorem ints_of (d : D) (ns : List Int) (h : isInts d ns) : d.items = some (ns.map D.int) := by
  rcases h with h | h <;> (subst h; rfl)
theorem atI_nat {α : Type} (xs : List α) (i : Nat) {x : α} (h : xs[i]? = some x) : atI xs (i : Int) = some x := by
  unfold atI ixN
  obtain ⟨hl, e⟩ := List.getElem?_eq_some_iff.mp h
  rw [if_pos (by omega), if_pos (by omega)]
  simpa using h
end DL

namespace DL
open PySem PySem.Spec PyProof.Rows L2
def pairD (p : Int × Int) : D := .tup [.int p.1, .int p.2]
def sizedD (p : Int × (Int × Int)) : D := .tup [.int p.1, pairD p.2]
section
variable {X : Cx} {Z : Zc} {e : Expr} {w : WE} {pos p apos cpos p2 : Pos}
/-- sorted(set(xs)), xs ints -/
@[simp] def wSortSetI (w : WE) : WE := fun env P => w env fun d => ∃ ns : List Int, d = .lst (ns.map D.int) ∧ ns.length < 64 ∧ ∀ ms : List Int, ms.Nodup → ms.Pairwise (· ≤ ·) → (∀ x, x ∈ ms ↔ x ∈ ns) → P (.lst (ms.map D.int))
/-- sorted(set(xs)), xs pairs of ints -/
@[simp] def wSortSetP (w : WE) : WE := fun env P => w env fun d => ∃ ns : List (Int × Int), d = .lst (ns.map pairD) ∧ ns.length ≤ 1000 ∧ (∀ p ∈ ns, 0 ≤ p.1 ∧ p.1 < 64 ∧ 0 ≤ p.2 ∧ p.2 < 64) ∧ ∀ ms : List (Int × Int), ms.Nodup → (∀ x, x ∈ ms ↔ x ∈ ns) → P (.lst (ms.map pairD))
/-- sorted(d), d a dict of ints -/
@[simp] def wSortDic (w : WE) : WE := fun env P => w env fun d => ∃ kvs, d = .dic kvs ∧ ∀ ns : List Int, ns.Perm (kvs.map (·.1)) → ns.Pairwise (· ≤ ·) → P (.lst (ns.map D.int))
/-- sorted(xs), xs of an int and a pair each, the ints distinct -/
@[simp] def wSortIP (w : WE) : WE := fun env P => w env fun d => ∃ xs : List (Int × (Int × Int)), d = .lst (xs.map sizedD) ∧ (xs.map (·.1)).Nodup ∧ ∀ ys : List (Int × (Int × Int)), ys.Perm xs → (ys.map (·.1)).Pairwise (· ≤ ·) → P (.lst (ys.map sizedD))
theorem pd_sortDic (hc : X.calm = true) (hg : Gl X "sorted") (hm : X.mg "sorted" = none) (he : PE X e (tE Z .view w)) (hs : starEach [e] X.env = (false, eval e X.env) :: starEach [] X.env := by rfl) : PE X (.Call (.Name "sorted" p) [e] [] pos) (tE Z .new (wSortDic w)) :=
  (pe_callB (cr_sortD hc) hg hm boot_sorted (pa_cons he pa_nil hs) (by decide) (by decide) hs (by rfl)).imp fun σ H Q ⟨B, H0, F, env, P, hd, sr, hw, q⟩ => by
    refine ⟨B, H0, F, env, _, hd, sr, hw, fun d F1 H1 v p1 f1 r1 => ?_⟩
    obtain ⟨kvs, e1, p⟩ := p1
    subst e1
    obtain ⟨a, ea, ha⟩ := RepV.dic f1.hd r1
    subst ea
    refine ⟨a, encD kvs, kvs.map (·.1), rfl, ha, by unfold encD; rw [List.map_map, List.map_map]; rfl, fun ys l h1 h2 hl => ?_⟩
    exact q _ F1 _ _ (p ys h1 h2) (Fr.trans hd f1 (Fr.laidN f1.hd hl)) (Res.back hd f1 ⟨l, _, rfl, hl, f1.hd.noneF hl, upd_same, _, rfl, Reps.ofInts ys⟩)
/-- a list of tuples, by their addresses -/
theorem tups_at {α : Type} {B : Addr} {F : Hp} (f : α → List D) : ∀ {xs : List α} {vs : List V}, Reps Z B F (xs.map fun x => D.tup (f x)) vs → ∃ L : List (Addr × α), vs = L.map (fun r => V.ref r.1) ∧ xs = L.map (·.2) ∧ ∀ r ∈ L, Rep Z B F (.tup (f r.2)) (V.ref r.1)
  | [], vs, h => ⟨[], h.nil_inv, rfl, fun r hr => by cases hr⟩
  | x :: xs, vs, h => by
    obtain ⟨v, t, rfl, h1, h2⟩ := h.cons_inv
    obtain ⟨L, e1, e2, e3⟩ := tups_at f h2
    obtain ⟨a, us, rfl, hs, hr⟩ := id h1
    refine ⟨(a, x) :: L, by rw [e1]; rfl, by rw [e2]; rfl, fun r hr' => ?_⟩
    rcases List.mem_cons.mp hr' with rfl | hr'
    · exact ⟨a, us, rfl, hs, hr⟩
    · exact e3 r hr'
theorem tups_back {α : Type} {B : Addr} {F : Hp} (f : α → List D) : ∀ {L : List (Addr × α)}, (∀ r ∈ L, Rep Z B F (.tup (f r.2)) (V.ref r.1)) → Reps Z B F ((L.map (·.2)).map fun x => D.tup (f x)) (L.map fun r => V.ref r.1)
  | [], _ => Reps.nil
  | r :: L, h => Reps.cons (h r List.mem_cons_self) (tups_back f fun x hx => h x (List.mem_cons_of_mem _ hx))
theorem pd_sortIP (hz : Z.K = X.K) (hg : Gl X "sorted") (hm : X.mg "sorted" = none) (he : PE X e (tE Z .view w)) (hs : starEach [e] X.env = (false, eval e X.env) :: starEach [] X.env := by rfl) : PE X (.Call (.Name "sorted" p) [e] [] pos) (tE Z .new (wSortIP w)) :=
  (pe_callB cr_sortFst hg hm boot_sorted (pa_cons he pa_nil hs) (by decide) (by decide) hs (by rfl)).imp fun σ H Q ⟨B, H0, F, env, P, hd, sr, hw, q⟩ => by
    refine ⟨B, H0, F, env, _, hd, sr, hw, fun d F1 H1 v p1 f1 r1 => ?_⟩
    obtain ⟨xs, e1, nd, p⟩ := p1
    subst e1
    obtain ⟨l, vs, el, hl, rs⟩ := RepV.lst f1.hd r1
    subst el
    obtain ⟨L, e1, e2, e3⟩ := tups_at (fun x : Int × (Int × Int) => [D.int x.1, pairD x.2]) rs
    subst e1
    subst e2
    refine ⟨l, L.map fun r => (r.1, r.2.1), rfl, ?_, fun r hr => ?_, ?_, fun L' l' h1 h2 hl' => ?_⟩
    · rw [List.map_map]; exact SqL.of hl
    · obtain ⟨r0, hr0, rfl⟩ := List.mem_map.mp hr
      obtain ⟨a, us, ea, hq, hr⟩ := e3 r0 hr0
      cases ea
      obtain ⟨x, t, rfl, h1, h2⟩ := hr.cons_inv
      obtain ⟨y, t, rfl, h3, h4⟩ := h2.cons_inv
      rw [h4.nil_inv] at hq
      rw [show x = V.int _ from h1] at hq
      rw [← hz]
      exact ⟨y, f1.hd.le.sqT hq⟩
    · rw [List.map_map]
      rw [List.map_map] at nd
      exact nd
    · obtain ⟨L2, p1, p2⟩ := perm_map_back (fun r : Addr × (Int × (Int × Int)) => (r.1, r.2.1)) h1
      subst p2
      have hp := p (L2.map (·.2)) (p1.map _) (by rw [List.map_map]; rw [List.map_map] at h2; exact h2)
      refine q _ F1 _ _ hp (Fr.trans hd f1 (Fr.laidN f1.hd hl')) (Res.back hd f1 ⟨l', _, rfl, hl', f1.hd.noneF hl', upd_same, _, rfl, ?_⟩)
      have tb := tups_back (Z := Z) (B := B) (F := F1) (fun x : Int × (Int × Int) => [D.int x.1, pairD x.2]) (L := L2) fun r hr => e3 r (p1.mem_iff.mp hr)
      rw [show (L2.map fun r => (r.1, r.2.1)).map (fun r : Addr × Int => V.ref r.1) = L2.map fun r => V.ref r.1 by rw [List.map_map]; rfl]
      exact tb
/-- sorted(set(e)): the inner call's set is not tracked -/
theorem pd_sortSetI (hz : Z.K = X.K) (hc : X.calm = true) (hg : Gl X "sorted") (hm : X.mg "sorted" = none) (hg2 : Gl X "set") (hm2 : X.mg "set" = none) (he : PE X e (tE Z .view w)) (na : starEach [e] X.env = (false, eval e X.env) :: starEach [] X.env := by rfl) : PE X (.Call (.Name "sorted" p) [.Call (.Name "set" p2) [e] [] apos] [] pos) (tE Z .new (wSortSetI w)) := by
  refine ⟨fun pins s σ H Q I ⟨B, H0, F, env, P, hd, sr, hw, q⟩ => ?_⟩
  have h1 : tE Z .view w σ H (fun v H1 => ∃ (F1 : Hp) (ns : List Int), Fr B H F H1 F1 ∧ RepV Z B F1 H1 (.lst (ns.map D.int)) v ∧ ns.length < 64 ∧ ∀ ms : List Int, ms.Nodup → ms.Pairwise (· ≤ ·) → (∀ x, x ∈ ms ↔ x ∈ ns) → P (.lst (ms.map D.int))) :=
    ⟨B, H0, F, env, _, hd, sr, hw, fun d F1 H1 v ⟨ns, e1, h64, p⟩ f1 r1 => by subst e1; exact ⟨F1, ns, f1, r1, h64, p⟩⟩
  refine Call_ (ld_blt I hg hm boot_sorted ?_)
  refine PyProof.Rows.callWith_builtin1 (PyProof.Rows.args_cons ?_ rfl) rfl rfl
  refine Call_ (ld_blt I hg2 hm2 PyProof.Rows.boot_set ?_)
  refine PyProof.Rows.callWith_type1 (PyProof.Rows.args_cons (thn (he.run pins s σ H _ I h1) fun v s1 ⟨x, H1, I1, r1, F1, ns, f1, rep, h64, p⟩ => PyProof.Rows.args_nil ?_) na) na rfl
  obtain ⟨l, ex, hl⟩ := RepV.lstI f1.hd rep
  subst ex
  cases r1
  obtain ⟨its, rv, pl, hz2⟩ := I1.list (SqL.of hl)
  refine call_setI ns (I1.ok.hd hc) pl.isList (by simpa using rv.ints) (by unfold scanBound; omega) fun h' tk c R hcl hk => PyProof.Rows.args_nil ?_
  have I2 : Inv X pins σ H1 { s1 with heap := h', toks := tk } := I1.kept hk
  refine sorted_set R (I2.ok.hd hc) (by omega) fun s' l' out c' ns' k g o hp hgt hi hs hmem hlen => ?_
  have hn : H1 l' = none := I2.hok.fresh hp
  have hb : ns'.length ≤ sizeLine := Nat.le_trans (show ns'.length ≤ 64 by omega) (by decide)
  have J : Inv X pins σ (upd H1 l' (.lst (ns'.map V.int))) { s1 with heap := s'.heap, gens := s'.gens, drawn := s'.drawn, toks := s'.toks } :=
    Inv.call (s := { s1 with heap := h', toks := tk }) (ch := []) I2 (Un.laid k hp hn) (I2.hok.laid k hp ⟨by rw [List.length_map]; exact hb, out.toList, c', vals_of_ints hi, hgt⟩) (by rw [g]; exact I2.bare) (fun _ z => nomatch z)
  have e : s' = { s1 with heap := s'.heap, gens := s'.gens, drawn := s'.drawn, toks := s'.toks } := by
    cases s'; cases s1; cases o; rfl
  rw [e]
  refine ⟨.ref l', _, J, rfl, ?_⟩
  exact q _ F1 _ _ (p ns' (hs.imp fun h => by omega) (hs.imp fun h => by omega) fun x => by rw [hmem]; simp) (Fr.trans hd f1 (Fr.laidN f1.hd hn)) (Res.back hd f1 ⟨l', _, rfl, hn, f1.hd.noneF hn, upd_same, _, rfl, Reps.ofInts ns'⟩)
theorem pd_sortSetP (hz : Z.K = X.K) (hc : X.calm = true) (hu : X.A.units + 64 < cLine) (hg : Gl X "sorted") (hm : X.mg "sorted" = none) (hg2 : Gl X "set") (hm2 : X.mg "set" = none) (he : PE X e (tE Z .view w)) (na : starEach [e] X.env = (false, eval e X.env) :: starEach [] X.env := by rfl) : PE X (.Call (.Name "sorted" p) [.Call (.Name "set" p2) [e] [] apos] [] pos) (tE Z .new (wSortSetP w)) := by
  refine ⟨fun pins s σ H Q I ⟨B, H0, F, env, P, hd, sr, hw, q⟩ => ?_⟩
  have h1 : tE Z .view w σ H (fun v H1 => ∃ (F1 : Hp) (ns : List (Int × Int)), Fr B H F H1 F1 ∧ RepV Z B F1 H1 (.lst (ns.map pairD)) v ∧ ns.length ≤ 1000 ∧ ∀ ms : List (Int × Int), ms.Nodup → (∀ x, x ∈ ms ↔ x ∈ ns) → P (.lst (ms.map pairD))) :=
    ⟨B, H0, F, env, _, hd, sr, hw, fun d F1 H1 v ⟨ns, e1, h64, _, p⟩ f1 r1 => by subst e1; exact ⟨F1, ns, f1, r1, h64, p⟩⟩
  refine Call_ (ld_blt I hg hm boot_sorted ?_)
  refine PyProof.Rows.callWith_builtin1 (PyProof.Rows.args_cons ?_ rfl) rfl rfl
  refine Call_ (ld_blt I hg2 hm2 PyProof.Rows.boot_set ?_)
  refine PyProof.Rows.callWith_type1 (PyProof.Rows.args_cons (thn (he.run pins s σ H _ I h1) fun v s1 ⟨x, H1, I1, r1, F1, ns, f1, rep, h64, p⟩ => PyProof.Rows.args_nil ?_) na) na rfl
  obtain ⟨l, vs, ex, hl, rs⟩ := RepV.lst f1.hd rep
  subst ex
  cases r1
  obtain ⟨L, e1, e2, e3⟩ := tups_at (fun x : Int × Int => [D.int x.1, D.int x.2]) rs
  subst e1
  subst e2
  have isq : ∀ r ∈ L, SqT X.K H1 r.1 ([r.2.1, r.2.2].map V.int) := fun r hr => by
    obtain ⟨a, us, ea, hq, hr'⟩ := e3 r hr
    cases ea
    have := (Reps.ints (is := [r.2.1, r.2.2]) hr')
    subst this
    rw [← hz]; exact f1.hd.le.sqT hq
  obtain ⟨its, rv, pl, hz2⟩ := I1.list (SqL.of hl)
  have key : ∃ ks : List (Addr × List Int), ks = L.map fun r => (r.1, [r.2.1, r.2.2]) := ⟨_, rfl⟩
  obtain ⟨ks, eks⟩ := key
  have hv : its = ks.map fun p => Value.ref p.1 := by
    have rv' : Vals (ks.map fun p => V.ref p.1) its := by rw [eks, List.map_map]; exact rv
    exact refs_of_vals rv'
  have hlen : ks.length ≤ 1000 := by rw [eks, List.length_map]; rw [List.length_map] at h64; exact h64
  refine call_set5 (P := X.prog) (w := X.w) ks (I1.ok.hd hc) pl.isList (by simpa using hv) (fun r hr => ?_) hlen (by omega) fun h' tk L2 es ep t R g hk => PyProof.Rows.args_nil ?_
  · rw [eks] at hr
    obtain ⟨r0, hr0, rfl⟩ := List.mem_map.mp hr
    exact I1.isT (isq r0 hr0)
  have I2 : Inv X pins σ H1 { s1 with heap := h', toks := tk } := I1.kept hk
  have sub : ∀ r ∈ L2, r ∈ ks := fun r hr => List.mem_of_mem_take (g.sub r hr)
  refine sorted_set5 R (I2.ok.hd hc) (fun r hr => ?_) fun s' l' n L3 pm k gn o hp hgt => ?_
  · have := sub r hr
    rw [eks] at this
    obtain ⟨r0, _, rfl⟩ := List.mem_map.mp this
    rfl
  have hn : H1 l' = none := I2.hok.fresh hp
  have hb : L3.length ≤ sizeLine := by
    rw [pm.length_eq]
    exact Nat.le_trans R.few (by decide)
  have J : Inv X pins σ (upd H1 l' (.lst (L3.map fun r => V.ref r.1))) { s1 with heap := s'.heap, gens := s'.gens, drawn := s'.drawn, toks := s'.toks } :=
    Inv.call (s := { s1 with heap := h', toks := tk }) (ch := []) I2 (Un.laid k hp hn) (I2.hok.laid k hp ⟨by rw [List.length_map]; exact hb, _, n, vals_rows L3, hgt⟩) (by rw [gn]; exact I2.bare) (fun _ z => nomatch z)
  have e : s' = { s1 with heap := s'.heap, gens := s'.gens, drawn := s'.drawn, toks := s'.toks } := by
    cases s'; cases s1; cases o; rfl
  rw [e]
  refine ⟨.ref l', _, J, rfl, ?_⟩
  -- the pairs
  have pr : ∀ r ∈ L3, ∃ r0 ∈ L, r = (r0.1, [r0.2.1, r0.2.2]) := fun r hr => by
    have := sub r (pm.mem_iff.mp hr)
    rw [eks] at this
    obtain ⟨r0, h0, e0⟩ := List.mem_map.mp this
    exact ⟨r0, h0, e0.symm⟩
  have un : ∃ L4 : List (Addr × (Int × Int)), L3 = L4.map (fun r => (r.1, [r.2.1, r.2.2])) ∧ ∀ r ∈ L4, r ∈ L := by
    clear J hb hgt e pm
    induction L3 with
    | nil => exact ⟨[], rfl, fun r hr => by cases hr⟩
    | cons r L3 ih =>
      obtain ⟨L4, i1, i2⟩ := ih fun x hx => pr x (List.mem_cons_of_mem _ hx)
      obtain ⟨r0, h0, e0⟩ := pr r List.mem_cons_self
      refine ⟨r0 :: L4, by rw [i1, e0]; rfl, fun x hx => ?_⟩
      rcases List.mem_cons.mp hx with rfl | hx
      · exact h0
      · exact i2 x hx
  obtain ⟨L4, e4, s4⟩ := un
  have nd3 : (L3.map (·.2)).Nodup := (pm.map _).nodup_iff.mpr R.nd
  have nd4 : (L4.map (·.2)).Nodup := by
    rw [e4, List.map_map] at nd3
    have := List.pairwise_map.mp nd3
    refine List.pairwise_map.mpr (this.imp fun {a b} h z => h ?_)
    show [a.2.1, a.2.2] = [b.2.1, b.2.2]
    rw [z]
  have hmem : ∀ x, x ∈ L4.map (·.2) ↔ x ∈ L.map (·.2) := fun x => by
    constructor
    · intro hx
      obtain ⟨r, hr, rfl⟩ := List.mem_map.mp hx
      exact List.mem_map.mpr ⟨r, s4 r hr, rfl⟩
    · intro hx
      obtain ⟨r, hr, rfl⟩ := List.mem_map.mp hx
      have h0 : (r.1, [r.2.1, r.2.2]) ∈ ks.take ks.length := by
        rw [List.take_length, eks]; exact List.mem_map.mpr ⟨r, hr, rfl⟩
      have h1 := g.all _ h0
      have h2 : [r.2.1, r.2.2] ∈ L3.map (·.2) := (pm.map _).mem_iff.mpr h1
      rw [e4, List.map_map] at h2
      obtain ⟨r2, hr2, e2⟩ := List.mem_map.mp h2
      have e2 : [r2.2.1, r2.2.2] = [r.2.1, r.2.2] := e2
      simp only [List.cons.injEq, and_true] at e2
      exact List.mem_map.mpr ⟨r2, hr2, Prod.ext e2.1 e2.2⟩
  have hpp := p (L4.map (·.2)) nd4 hmem
  refine q _ F1 _ _ hpp (Fr.trans hd f1 (Fr.laidN f1.hd hn)) (Res.back hd f1 ⟨l', _, rfl, hn, f1.hd.noneF hn, upd_same, _, rfl, ?_⟩)
  have tb := tups_back (Z := Z) (B := B) (F := F1) (fun x : Int × Int => [D.int x.1, D.int x.2]) (L := L4) fun r hr => e3 r (s4 r hr)
  rw [e4, show (L4.map fun r => (r.1, [r.2.1, r.2.2])).map (fun r : Addr × List Int => V.ref r.1) = L4.map fun r => V.ref r.1 by rw [List.map_map]; rfl]
  exact tb
theorem fr_locked {B a : Addr} {H F H' F' : Hp} {o o2 : HO} (hd : HdOk B F H) (f : Fr B H F H' F') (ha : H a = none) (hf : F' a = none) (ho : H' a = some o) : Fr B H F (upd H' a o2) (upd F' a o2) := by
  have nb := hd.newB ha
  refine ⟨fun b o ne e => ?_, fun b e => ?_, ⟨fun b o e => ?_, ?_, ?_⟩⟩
  · rw [upd_ne (ne_of_none e ha)]; exact f.keep b o ne e
  · rw [upd_ne]; exact f.new b e
    intro z; rw [z] at e; exact e ha
  · by_cases z : b = a
    · subst z; rw [upd_same] at e ⊢; exact e
    · rw [upd_ne z] at e ⊢; exact f.hd.le b o e
  · rw [upd_ne (Ne.symm nb)]; exact f.hd.fb
  · obtain ⟨x, y, z, e, q⟩ := f.hd.bag
    exact ⟨x, y, z, by rw [upd_ne (Ne.symm nb)]; exact e, q⟩
/-- y = {dict comp}, the dict locked from then on -/
theorem ps_setDcL {i : Nat} {y : Str} {py spos : Pos} {kx vx tg iter : Expr} {ifs : List Expr} {scope : Scope} {own : List (Str × Nat)} {pos : Pos} {wi : TI} {g : TG} {tt : TT} {tk tv : TE} (hc : X.calm = true) (hN : X.N.Nodup) (hy : X.N[i]? = some y) (hyl : X.env.scope.names.lookup y = some .local) (hsw : swapsWith (.DictComp kx vx [⟨tg, iter, ifs, 0⟩] scope pos) (some (.Name y py)) spos.line X.env = pure true) (hi : PI X tg iter wi) (ok : BlkOk X.N X.env.scope scope own)
    (hg : ∀ (s : Shared) (H : Hp) (C : Addr) (cl : List (Str × Addr)) (fp : List Addr), PG (X.blk s H scope (compEnvC scope cl C X.env) fp) tg g) (ht : ∀ (s : Shared) (H : Hp) (C : Addr) (cl : List (Str × Addr)) (fp : List Addr), PTs (X.blk s H scope (compEnvC scope cl C X.env) fp) ifs tt)
    (hk : ∀ (s : Shared) (H : Hp) (C : Addr) (cl : List (Str × Addr)) (fp : List Addr), PE (X.blk s H scope (compEnvC scope cl C X.env) fp) kx tk)
    (he : ∀ (s : Shared) (H : Hp) (C : Addr) (cl : List (Str × Addr)) (fp : List Addr), PE (X.blk s H scope (compEnvC scope cl C X.env) fp) vx tv) (hs : ∀ x, foldedSetIterable iter X.env x = pure x := by intro _; rfl) :
    PS X (.Assign [.Name y py] (.DictComp kx vx [⟨tg, iter, ifs, 0⟩] scope pos) spos) (fun D σ H => tDc wi g tt tk tv (own.map (·.2)) σ H fun x H1 => ∃ (a : Addr) (kvs : List (Key × V)), x = V.ref a ∧ H1 a = some (.dK kvs) ∧ ∀ od, D.nx (σ.set i (some x)) (upd H1 a (.frz od (.dK kvs)))) := by
  refine ⟨fun pins s σ H D I h => ?_⟩
  rw [exec_Assign_Name_used _ _ _ _ hsw]
  refine wpAny_bind (wpAny_standAt (wpAny_bind ?_))
  show wpAny _ X.A (do let _ ← comprehension (.DictComp kx vx [⟨tg, iter, ifs, 0⟩] scope pos) scope X.env (firstIterPos [⟨tg, iter, ifs, 0⟩] pos) newDict false (eval iter X.env) (some (assign (.Name y py) X.env))) _ _ s
  refine wpAny_bind (thn (dc_core (Qf := fun _ s' => SP X pins D .next s') hc hN I hi ok hg ht hk he hs h fun L C s' m H' I' q hn f => ?_) fun _ s' hq => wpAny_pure (wpAny_pure hq))
  show wpAny _ _ (assign (.Name y py) X.env (.ref L)) _ _ _
  refine wpAny_assign_Name (store_ok2 (v := V.ref L) I' hN hy (.inl hyl) rfl (fun s2 I2 ⟨a, sb, ha⟩ => ?_) (.inr hyl))
  obtain ⟨f0, f1, f2, f3, f4, f5⟩ := f
  have ne : C ≠ a := by
    rcases ha with z | z
    · exact z ▸ f1
    · exact fun e => f4 y a z e.symm
  refine ⟨m, hn.sameBut sb ne, fun h3 sb3 => ?_⟩
  have I3 := I2.turned (t' := s2.toks) (fun b o hb e => (sb3.2 b hb).trans e) f0 f1 f3 f4 f5
  obtain ⟨d, kvs, ed, hd, q⟩ := q
  cases ed
  obtain ⟨od, I4⟩ := I3.lock hd trivial
  exact ⟨_, _, I4, q od⟩
theorem pd_setDc {i : Nat} {y : Str} {py spos : Pos} {kx vx tg iter : Expr} {ifs : List Expr} {scope : Scope} {own : List (Str × Nat)} {pos : Pos} {wi : WI} {g : WG} {wt : WT} {wk wv : WE} {is : List Nat} (hc : X.calm = true) (hN : X.N.Nodup) (hy : X.N[i]? = some y) (hyl : X.env.scope.names.lookup y = some .local) (hsw : swapsWith (.DictComp kx vx [⟨tg, iter, ifs, 0⟩] scope pos) (some (.Name y py)) spos.line X.env = pure true) (hi : PI X tg iter (tI Z wi)) (ok : BlkOk X.N X.env.scope scope own)
    (hg : ∀ (s : Shared) (H : Hp) (C : Addr) (cl : List (Str × Addr)) (fp : List Addr), PG (X.blk s H scope (compEnvC scope cl C X.env) fp) tg (tG Z is g)) (ht : ∀ (s : Shared) (H : Hp) (C : Addr) (cl : List (Str × Addr)) (fp : List Addr), PTs (X.blk s H scope (compEnvC scope cl C X.env) fp) ifs (tT Z wt))
    (hk : ∀ (s : Shared) (H : Hp) (C : Addr) (cl : List (Str × Addr)) (fp : List Addr), PE (X.blk s H scope (compEnvC scope cl C X.env) fp) kx (tE Z .frz wk))
    (he : ∀ (s : Shared) (H : Hp) (C : Addr) (cl : List (Str × Addr)) (fp : List Addr), PE (X.blk s H scope (compEnvC scope cl C X.env) fp) vx (tE Z .frz wv)) (his : ∀ i ∈ is, i ∈ own.map (·.2)) (hs : ∀ x, foldedSetIterable iter X.env x = pure x := by intro _; rfl) :
    PS X (.Assign [.Name y py] (.DictComp kx vx [⟨tg, iter, ifs, 0⟩] scope pos) spos) (tS Z (wSet i (wLock (wDc wi g wt wk wv (own.map (·.2)))))) :=
  (ps_setDcL hc hN hy hyl hsw hi ok hg ht hk he hs).imp fun T σ H ⟨B, H0, F0, Fl, F, env, E, s, hw, wt⟩ => by
    refine dc_D his _ _ _ (tE_in (P := fun d => ∃ kvs, d = .dic kvs ∧ E.nx (env.set i (.val (.dicL kvs)))) s hw fun d F' H' v p f s' r => ?_)
    obtain ⟨kvs, e, p⟩ := p
    subst e
    obtain ⟨a, o, ev, ha, hf, ho, t⟩ := r
    rw [show o = _ from t] at ho
    refine ⟨a, encD kvs, ev, ho, fun od => ?_⟩
    have f2 : Fr B H F (upd H' a (.frz od (.dK (encD kvs)))) (upd F' a (.frz od (.dK (encD kvs)))) := fr_locked s.fr.hd f ha hf ho
    refine wt.nx _ _ (upd F' a (.frz od (.dK (encD kvs)))) _ p ((s.step f2).set i ?_)
    exact ⟨a, od, ev, upd_same⟩
theorem sw_trueD {kx vx : Expr} {gs : List Comprehension} {scope : Scope} {pos py : Pos} {y : Str} {l : Nat} {env : Env} (hk : env.scope.kind = .function) (hy : env.scope.names.lookup y = some .local) (hl : (py.line == pos.line) = true)
    (ha : (scope.names.any fun (n, k) => n == y && (k == .local || k == .cell)) = false) : swapsWith (.DictComp kx vx gs scope pos) (some (.Name y py)) l env = pure true := by
  have ky : env.kindOf y = some .local := hy
  have hb : env.blockKind = .function := by unfold Env.blockKind; rw [hk]; rfl
  unfold swapsWith
  simp only [hb, ky, ha, Expr.pos, hl]
  rfl
end
end DL

namespace DL
open PySem PySem.Spec PyProof.Rows L2
section
variable {X : Cx} {Z : Zc} {e o : Expr} {w wo : WE} {pos p apos : Pos}
/-- f'{e}', e an int -/
@[simp] def wFmt (w : WE) : WE := fun env P => w env fun d => ∃ i : Int, d = .int i ∧ i.natAbs.log2 < 1920 ∧ P (.str (toString i))
theorem pd_fmt (he : PE X e (tE Z .frz w)) : PE X (.JoinedStr [.FormattedValue e (-1) none p] pos) (tE Z .frz (wFmt w)) :=
  (pe_joined1 (pe_fmt he)).imp fun σ H Q ⟨B, H0, F, env, P, hd, sr, hw, q⟩ => by
    refine ⟨B, H0, F, env, _, hd, sr, hw, fun d F1 H1 v p1 f1 r1 => ?_⟩
    obtain ⟨i, e1, h, p⟩ := p1
    subst e1
    exact .inr ⟨i, r1, h, q _ F1 H1 _ p f1 rfl⟩
/-- a.join(e), e a list of texts -/
@[simp] def wJoin (wo w : WE) : WE := fun env P => wo env fun da => w env fun d => ∃ (a : Str) (ss : List Str), da = .str a ∧ d = .lst (ss.map D.str) ∧ (ss.map (·.length)).sum + ss.length * a.length ≤ 16777216 ∧ P (.str (Txt.join a ss))
theorem Reps.strs {B : Addr} {F : Hp} : ∀ {is : List Str} {xs : List V}, Reps Z B F (is.map D.str) xs → xs = is.map V.str
  | [], _, h => h.nil_inv
  | i :: is, _, h => by
    obtain ⟨x, r, rfl, h1, h2⟩ := h.cons_inv
    rw [show x = V.str i from h1, Reps.strs h2]; rfl
theorem pd_join (ho : PE X o (tE Z .frz wo)) (he : PE X e (tE Z .frz w)) (hst : ∀ env P, wo env P → wo env fun d => (∃ a : Str, d = .str a) ∧ P d) (hs : starEach [e] X.env = [(false, eval e X.env)] := by rfl) (hbase : attributeBase o "join" X.env (eval o X.env) = eval o X.env := by rfl) (hline : (apos.endLine == pos.line) = true := by rfl) :
    PE X (.Call (.Attribute o "join" apos) [e] [] pos) (tE Z .frz (wJoin wo w)) :=
  (pe_join ho he hs hbase hline).imp fun σ H Q ⟨B, H0, F, env, P, hd, sr, hw, q⟩ => by
    refine ⟨B, H0, F, env, _, hd, sr, hst env _ hw, fun d F1 H1 v p1 f1 r1 => ?_⟩
    obtain ⟨⟨a, e1⟩, p1⟩ := p1
    subst e1
    refine ⟨⟨a, r1⟩, B, H0, F1, env, _, f1.hd, sr.step hd f1, p1, fun d2 F2 H2 v2 p2 f2 r2 => ?_⟩
    obtain ⟨a', ss, e2, e3, hz, p3⟩ := p2
    cases e2
    subst e3
    obtain ⟨l, xs, e4, hl, rs⟩ := r2
    subst e4
    have := rs.strs
    subst this
    exact ⟨a, l, ss, r1, rfl, .inl (SqL.of (f2.hd.le _ _ hl)), hz, q _ F2 H2 _ p3 (Fr.trans hd f1 f2) rfl⟩
end
end DL

namespace DL
open PySem PySem.Spec PyProof.Rows L2
@[simp] theorem kit_ii : kitB "int" "int" = some true := by decide +kernel
@[simp] theorem kit_ib : kitB "int" "bool" = some false := by decide +kernel
@[simp] theorem kit_ni : kitB "NoneType" "int" = some false := by decide +kernel
@[simp] theorem kit_tt : kitB "tuple" "tuple" = some true := by decide +kernel
theorem iseq_ints {d : D} {ns : List Int} (h : isInts d ns) {R : List D → Prop} (k : R (ns.map D.int)) : (∃ ds, d = .lst ds ∧ R ds) ∨ ∃ ds, d = .tup ds ∧ R ds := by
  rcases h with h | h
  · exact .inl ⟨_, h, k⟩
  · exact .inr ⟨_, h, k⟩
/-! ### small words -/
section
variable {P : Program} {w : World} {K : PySem.W.Frag} {mg : Str → Option Value} {base : Heap} {Z : Zc}
/-! ### is_plain -/
def N_is_plain : List Str := ["value"]
theorem sc_is_plain : FnScope N_is_plain ["value"] (defScope (topAt 11)) := ⟨rfl, rfl, rfl, by decide +kernel, rfl, by decide +kernel, by decide +kernel⟩
def wb_is_plain : WS := (wRet (wAndV (wIsi "int" (wVar 0)) (wNotV (wIsi "bool" (wVar 0)))))
theorem b_is_plain (T : Txt P w K mg base Z) (f : Addr) (cdv : Value) (A : Around) (outer : List Env) (s : Shared) (H : Hp) (E : XK) (hr : Room 0 (A.deeper (envOfC "is_plain" (defScope (topAt 11)) s.heap.objs.size f cdv))) :
    PSs (cxOf CX0 P w K mg base N_is_plain "is_plain" (defScope (topAt 11)) f cdv A outer s H E).nox (defBody (topAt 11)) (tS Z wb_is_plain) :=
  (pds_one (pd_ret (pd_and (pd_isi T.z.k rfl T.h_isinstance rfl T.h_int boot_int (pd_var (i := 0) rfl (.inl rfl))) (pd_one (pd_not (pd_isi T.z.k rfl T.h_isinstance rfl T.h_bool boot_bool (pd_var (i := 0) rfl (.inl rfl))))))))
end
def sp_is_plain : WL := fun ds Q => ∃ i : Int, ds = [.int i] ∧ Q (.bl true)
@[simp] theorem sp_is_plain_eq (i : Int) (Q : D → Prop) : sp_is_plain [.int i] Q = Q (.bl true) := by simp [sp_is_plain]
theorem imp_is_plain : ∀ ds Q, sp_is_plain ds Q → ds.length = 1 ∧ wFn N_is_plain wb_is_plain ds Q := by
  rintro ds Q ⟨i, rfl, q⟩
  refine ⟨rfl, ?_⟩
  simpa [wb_is_plain, N_is_plain] using q
theorem cal_is_plain {P : Program} {w : World} {K : PySem.W.Frag} {mg : Str → Option Value} {base : Heap} {Z : Zc} (T : Txt P w K mg base Z) : Cal P w K mg base Z 1 "is_plain" sp_is_plain :=
  cal_of T.d_is_plain sc_is_plain imp_is_plain fun f cdv A outer s H E hr => b_is_plain T f cdv A outer s H E hr
section
variable {P : Program} {w : World} {K : PySem.W.Frag} {mg : Str → Option Value} {base : Heap} {Z : Zc}
/-! ### is_within -/
def N_is_within : List Str := ["value", "low", "high"]
theorem sc_is_within : FnScope N_is_within ["value", "low", "high"] (defScope (topAt 13)) := ⟨rfl, rfl, rfl, by decide +kernel, rfl, by decide +kernel, by decide +kernel⟩
def wb_is_within : WS := (wRet (wAndV (wCall sp_is_plain (wCons (wVar 0) wNil)) (wChain aLe aLe (wVar 1) (wVar 0) (wVar 2))))
theorem b_is_within (T : Txt P w K mg base Z) (f : Addr) (cdv : Value) (A : Around) (outer : List Env) (s : Shared) (H : Hp) (E : XK) (hr : Room 1 (A.deeper (envOfC "is_within" (defScope (topAt 13)) s.heap.objs.size f cdv))) :
    PSs (cxOf CX0 P w K mg base N_is_within "is_within" (defScope (topAt 13)) f cdv A outer s H E).nox (defBody (topAt 13)) (tS Z wb_is_within) :=
  (pds_one (pd_ret (pd_and (pd_call (cal_is_plain T) hr (by decide) rfl (pd_cons (pd_var (i := 0) rfl (.inl rfl)) pd_nil)) (pd_one (pd_chain op_le op_le od_le od_le (pe_vw (pd_var (i := 1) rfl (.inl rfl))) (pe_vw (pd_var (i := 0) rfl (.inl rfl))) (pe_vw (pd_var (i := 2) rfl (.inl rfl))))))))
end
def sp_is_within : WL := fun ds Q => ∃ v l h : Int, ds = [.int v, .int l, .int h] ∧ Q (.bl (decide (l ≤ v ∧ v ≤ h)))
@[simp] theorem sp_is_within_eq (v l h : Int) (Q : D → Prop) : sp_is_within [.int v, .int l, .int h] Q = Q (.bl (decide (l ≤ v ∧ v ≤ h))) := by
  apply propext
  constructor
  · rintro ⟨_, _, _, e, q⟩; cases e; exact q
  · exact fun q => ⟨_, _, _, rfl, q⟩
theorem imp_is_within : ∀ ds Q, sp_is_within ds Q → ds.length = 3 ∧ wFn N_is_within wb_is_within ds Q := by
  rintro ds Q ⟨v, l, h, rfl, q⟩
  refine ⟨rfl, ?_⟩
  simp [wb_is_within, N_is_within]
  by_cases h1 : l ≤ v
  · exact .inr (by simpa [h1] using q)
  · exact .inl ⟨by omega, by simpa [h1] using q⟩
theorem cal_is_within {P : Program} {w : World} {K : PySem.W.Frag} {mg : Str → Option Value} {base : Heap} {Z : Zc} (T : Txt P w K mg base Z) : Cal P w K mg base Z 2 "is_within" sp_is_within :=
  cal_of T.d_is_within sc_is_within imp_is_within fun f cdv A outer s H E hr => b_is_within T f cdv A outer s H E hr
section
variable {P : Program} {w : World} {K : PySem.W.Frag} {mg : Str → Option Value} {base : Heap} {Z : Zc}
/-! ### require_within -/
def N_require_within : List Str := ["value", "low", "high"]
theorem sc_require_within : FnScope N_require_within ["value", "low", "high"] (defScope (topAt 14)) := ⟨rfl, rfl, rfl, by decide +kernel, rfl, by decide +kernel, by decide +kernel⟩
def wb_require_within : WS := (wIf (wNot (wTest (wCall sp_is_within (wCons (wVar 0) (wCons (wVar 1) (wCons (wVar 2) wNil)))))) wNever wNext)
theorem b_require_within (T : Txt P w K mg base Z) (f : Addr) (cdv : Value) (A : Around) (outer : List Env) (s : Shared) (H : Hp) (E : XK) (hr : Room 2 (A.deeper (envOfC "require_within" (defScope (topAt 14)) s.heap.objs.size f cdv))) :
    PSs (cxOf CX0 P w K mg base N_require_within "require_within" (defScope (topAt 14)) f cdv A outer s H E).nox (defBody (topAt 14)) (tS Z wb_require_within) :=
  (pds_one (pd_if (pt_notD (pt_valD (pd_call (cal_is_within T) hr (by decide) rfl (pd_cons (pd_var (i := 0) rfl (.inl rfl)) (pd_cons (pd_var (i := 1) rfl (.inl rfl)) (pd_cons (pd_var (i := 2) rfl (.inl rfl)) pd_nil)))))) pds_never pds_nil))
end
def sp_require_within : WL := fun ds Q => ∃ v l h : Int, ds = [.int v, .int l, .int h] ∧ (l ≤ v ∧ v ≤ h) ∧ Q .non
@[simp] theorem sp_require_within_eq (v l h : Int) (Q : D → Prop) : sp_require_within [.int v, .int l, .int h] Q = ((l ≤ v ∧ v ≤ h) ∧ Q .non) := by
  apply propext
  constructor
  · rintro ⟨_, _, _, e, h, q⟩; cases e; exact ⟨h, q⟩
  · exact fun q => ⟨_, _, _, rfl, q.1, q.2⟩
theorem imp_require_within : ∀ ds Q, sp_require_within ds Q → ds.length = 3 ∧ wFn N_require_within wb_require_within ds Q := by
  rintro ds Q ⟨v, l, h, rfl, hh, q⟩
  refine ⟨rfl, ?_⟩
  simp [wb_require_within, N_require_within]
  exact ⟨hh, q⟩
theorem cal_require_within {P : Program} {w : World} {K : PySem.W.Frag} {mg : Str → Option Value} {base : Heap} {Z : Zc} (T : Txt P w K mg base Z) : Cal P w K mg base Z 3 "require_within" sp_require_within :=
  cal_of T.d_require_within sc_require_within imp_require_within fun f cdv A outer s H E hr => b_require_within T f cdv A outer s H E hr
section
variable {P : Program} {w : World} {K : PySem.W.Frag} {mg : Str → Option Value} {base : Heap} {Z : Zc}
/-! ### require_row -/
def N_require_row : List Str := ["value"]
theorem sc_require_row : FnScope N_require_row ["value"] (defScope (topAt 41)) := ⟨rfl, rfl, rfl, by decide +kernel, rfl, by decide +kernel, by decide +kernel⟩
def wb_require_row : WS := (wIf (wNot (wTest (wIsRow (wVar 0)))) wNever wNext)
theorem b_require_row (T : Txt P w K mg base Z) (f : Addr) (cdv : Value) (A : Around) (outer : List Env) (s : Shared) (H : Hp) (E : XK) (hr : Room 0 (A.deeper (envOfC "require_row" (defScope (topAt 41)) s.heap.objs.size f cdv))) :
    PSs (cxOf CX0 P w K mg base N_require_row "require_row" (defScope (topAt 41)) f cdv A outer s H E).nox (defBody (topAt 41)) (tS Z wb_require_row) :=
  (pds_one (pd_if (pt_notD (pt_valD (pd_isRow T.z T.c_Quotient rfl T.h_isinstance rfl (pd_var (i := 0) rfl (.inl rfl))))) pds_never pds_nil))
end
def sp_require_row : WL := fun ds Q => ∃ ts bs, ds = [.row ts bs] ∧ Q .non
@[simp] theorem sp_require_row_eq (ts bs : List Int) (Q : D → Prop) : sp_require_row [.row ts bs] Q = Q .non := by
  apply propext
  constructor
  · rintro ⟨_, _, e, q⟩; cases e; exact q
  · exact fun q => ⟨_, _, rfl, q⟩
theorem imp_require_row : ∀ ds Q, sp_require_row ds Q → ds.length = 1 ∧ wFn N_require_row wb_require_row ds Q := by
  rintro ds Q ⟨ts, bs, rfl, q⟩
  refine ⟨rfl, ?_⟩
  simpa [wb_require_row, N_require_row] using q
theorem cal_require_row {P : Program} {w : World} {K : PySem.W.Frag} {mg : Str → Option Value} {base : Heap} {Z : Zc} (T : Txt P w K mg base Z) : Cal P w K mg base Z 1 "require_row" sp_require_row :=
  cal_of T.d_require_row sc_require_row imp_require_row fun f cdv A outer s H E hr => b_require_row T f cdv A outer s H E hr
/-! ### counting, products -/
section
variable {P : Program} {w : World} {K : PySem.W.Frag} {mg : Str → Option Value} {base : Heap} {Z : Zc}
/-! ### how_often -/
def N_how_often : List Str := ["members", "member", "one"]
theorem sc_how_often : FnScope N_how_often ["members", "member"] (defScope (topAt 29)) := ⟨rfl, rfl, rfl, by decide +kernel, rfl, by decide +kernel, by decide +kernel⟩
def wb_how_often : WS := (wRet (wCall aSum (wCons (wLc (wISeq (wVar 0)) (gN 2) (wTest (wOp (aEq false) (wVar 2) (wVar 1))) (wC (.int 1)) [2]) wNil)))
theorem b_how_often (T : Txt P w K mg base Z) (f : Addr) (cdv : Value) (A : Around) (outer : List Env) (s : Shared) (H : Hp) (E : XK) (hr : Room 0 (A.deeper (envOfC "how_often" (defScope (topAt 29)) s.heap.objs.size f cdv))) :
    PSs (cxOf CX0 P w K mg base N_how_often "how_often" (defScope (topAt 29)) f cdv A outer s H E).nox (defBody (topAt 29)) (tS Z wb_how_often) :=
  (pds_one (pd_ret (pd_callB (cd_sum T.z.k) (sum_any rfl) rfl T.h_sum boot_sum (pd_consV (pe_nv (pd_lc (own := [("one", 2)]) (is := [2]) rfl sc_how_often.nd (pd_iseq T.z.k (pd_var (i := 0) rfl (.inl rfl))) (blkOk_by (N := N_how_often) (sc := defScope (topAt 29)) (by decide +kernel)) (fun _ _ _ _ _ => (pd_gn (i := 2) (is := [2]) (by decide) sc_how_often.nd rfl (.inl rfl))) (fun _ _ _ _ _ => (pd_if1 (pt_cmpD (op_eqD hr.units) (od_eq T.z.k) (pe_vw (pd_var (i := 2) rfl (.inl rfl))) (pe_vw (pd_var (i := 1) rfl (.inr (.inl rfl))))))) (fun _ _ _ _ _ => pd_int) (by decide))) pd_nil))))
end
def sp_how_often : WL := fun ds Q => ∃ (d : D) (ns : List Int) (m : Int), ds = [d, .int m] ∧ isInts d ns ∧ ns.length ≤ 1000 ∧ Q (.int (ns.count m))
theorem sum_ones {α : Type} (c : α → Bool) : ∀ xs : List α, ((xs.filter c).map fun _ => (1 : Int)).sum = xs.countP c
  | [] => rfl
  | x :: xs => by
    by_cases h : c x = true
    · rw [List.filter_cons, if_pos h, List.map_cons, List.sum_cons, sum_ones c xs, List.countP_cons_of_pos h]; omega
    · rw [List.filter_cons, if_neg h, sum_ones c xs, List.countP_cons_of_neg h]
theorem imp_how_often : ∀ ds Q, sp_how_often ds Q → ds.length = 2 ∧ wFn N_how_often wb_how_often ds Q := by
  rintro ds Q ⟨d, ns, m, rfl, h, hl, q⟩
  refine ⟨rfl, ?_⟩
  simp [wb_how_often, N_how_often]
  refine iseq_ints h (lc_pure D.int (fun x => decide (x = m)) (fun _ => .int 1) ns [] (fun x hx K1 K0 h1 h0 => ?_) (by have := size_big; simp; omega) ?_)
  · simp
    by_cases e : x = m
    · rw [if_pos e]; exact h1 (by simpa using e)
    · rw [if_neg e]; exact h0 (by simpa using e)
  · refine ⟨((ns.filter fun x => decide (x = m)).map fun _ => (1 : Int)), .inl (by simp), ?_⟩
    rw [sum_ones]
    have e : ns.countP (fun x => decide (x = m)) = ns.count m := by
      unfold List.count
      apply List.countP_congr
      intro x _
      simp
    rw [e]; exact q
theorem cal_how_often {P : Program} {w : World} {K : PySem.W.Frag} {mg : Str → Option Value} {base : Heap} {Z : Zc} (T : Txt P w K mg base Z) : Cal P w K mg base Z 1 "how_often" sp_how_often :=
  cal_of T.d_how_often sc_how_often imp_how_often fun f cdv A outer s H E hr => b_how_often T f cdv A outer s H E hr
def factI : Nat → Int
  | 0 => 1
  | n + 1 => factI n * (n + 1)
theorem factI_pos : ∀ n, 0 < factI n
  | 0 => by decide
  | n + 1 => Int.mul_pos (factI_pos n) (by omega)
theorem factI_le : ∀ n, (factI n).natAbs < 2 ^ (10 * n + 1) ∨ 1000 < n
  | 0 => .inl (by decide)
  | n + 1 => by
    rcases factI_le n with h | h
    · by_cases hn : n < 1000
      · refine .inl ?_
        show (factI n * (n + 1)).natAbs < _
        have h2 : ((n : Int) + 1).natAbs < 2 ^ 10 := by omega
        have := wide_lt h h2
        have e : 10 * n + 1 + 10 = 10 * (n + 1) + 1 := by omega
        rw [e] at this
        exact this
      · exact .inr (by omega)
    · exact .inr (by omega)
section
variable {P : Program} {w : World} {K : PySem.W.Frag} {mg : Str → Option Value} {base : Heap} {Z : Zc}
/-! ### factorial_of -/
def N_factorial_of : List Str := ["number", "found", "factor"]
theorem sc_factorial_of : FnScope N_factorial_of ["number"] (defScope (topAt 35)) := ⟨rfl, rfl, rfl, by decide +kernel, rfl, by decide +kernel, by decide +kernel⟩
def wb_factorial_of : WS := (wSeq (wSet 1 (wC (.int 1))) (wSeq (wFor (wIR2 (wCons (wC (.int 2)) (wCons (wOp aAdd (wVar 0) (wC (.int 1))) wNil))) (gN 2) (wAug 1 aMul (wVar 2))) (wRet (wVar 1))))
theorem b_factorial_of (T : Txt P w K mg base Z) (f : Addr) (cdv : Value) (A : Around) (outer : List Env) (s : Shared) (H : Hp) (E : XK) (hr : Room 0 (A.deeper (envOfC "factorial_of" (defScope (topAt 35)) s.heap.objs.size f cdv))) :
    PSs (cxOf CX0 P w K mg base N_factorial_of "factorial_of" (defScope (topAt 35)) f cdv A outer s H E).nox (defBody (topAt 35)) (tS Z wb_factorial_of) :=
  (pds_cons (pd_set (i := 1) sc_factorial_of.nd rfl (.inl rfl) pd_int)
    (pds_cons (pd_for (pd_ir2 rfl T.h_range (pd_consV (pe_vw pd_int) (pd_consV (pe_vw (pd_op op_add od_add (pe_vw (pd_var (i := 0) rfl (.inl rfl))) (pe_vw pd_int))) pd_nil))) (pd_gn (i := 2) (is := [2]) (by decide) sc_factorial_of.nd rfl (.inl rfl)) (pds_one (pd_aug (i := 1) sc_factorial_of.nd rfl (.inl rfl) (pe_vw (pd_var (i := 2) rfl (.inl rfl))) iop_mulG od_mul)) PassesOwn.never rfl)
    (pds_one (pd_ret (pd_var (i := 1) rfl (.inl rfl))))))
end
def sp_factorial_of : WL := fun ds Q => ∃ n : Nat, ds = [.int n] ∧ n ≤ 600 ∧ Q (.int (factI n))
theorem fact_loop (E : EndsD) (v : Sl) : ∀ (k m : Nat) (s : Sl), 1 ≤ m → m + k ≤ 600 → (∀ s, E.nx [v, .val (.int (factI (m + k))), s]) →
    forD (gN 2) (wAug 1 aMul (wVar 2)) E (rngD (m + 1) k) [v, .val (.int (factI m)), s]
  | 0, m, s, _, _, q => by rw [rngD_zero]; simpa using q s
  | k + 1, m, s, h1, h2, q => by
    rw [rngD_succ]
    simp
    have hb : (factI m).natAbs < 2 ^ 6001 := by
      rcases factI_le m with h | h
      · exact Nat.lt_of_lt_of_le h (Nat.pow_le_pow_right (by decide) (by omega))
      · omega
    refine ⟨mulW_of (b := 10) hb (by omega), ?_⟩
    have := fact_loop E v k (m + 1) (.val (.int (m + 1))) (by omega) (by omega) (by rw [show m + 1 + k = m + (k + 1) by omega]; exact q)
    simpa [factI] using this
theorem imp_factorial_of : ∀ ds Q, sp_factorial_of ds Q → ds.length = 1 ∧ wFn N_factorial_of wb_factorial_of ds Q := by
  rintro ds Q ⟨n, rfl, h, q⟩
  refine ⟨rfl, ?_⟩
  simp [wb_factorial_of, N_factorial_of, -forD]
  refine ⟨by omega, ?_⟩
  cases n with
  | zero => simpa [rngD_zero, factI] using q
  | succ n =>
    have := fact_loop { nx := wRet (wVar 1) { nx := fun _ => Q .non, rt := Q }, rt := Q } (.val (.int ((n + 1 : Nat) : Int))) n 1 .no (by decide) (by omega) (fun s => by rw [show 1 + n = n + 1 by omega]; simpa using q)
    have e : ((((n + 1 : Nat) : Int) + 1 - 2).toNat) = n := by omega
    rw [e]
    simpa [factI] using this
theorem cal_factorial_of {P : Program} {w : World} {K : PySem.W.Frag} {mg : Str → Option Value} {base : Heap} {Z : Zc} (T : Txt P w K mg base Z) : Cal P w K mg base Z 1 "factorial_of" sp_factorial_of :=
  cal_of T.d_factorial_of sc_factorial_of imp_factorial_of fun f cdv A outer s H E hr => b_factorial_of T f cdv A outer s H E hr
section
variable {P : Program} {w : World} {K : PySem.W.Frag} {mg : Str → Option Value} {base : Heap} {Z : Zc}
/-! ### multiple_of -/
def N_multiple_of : List Str := ["numbers", "found", "number"]
theorem sc_multiple_of : FnScope N_multiple_of ["numbers"] (defScope (topAt 17)) := ⟨rfl, rfl, rfl, by decide +kernel, rfl, by decide +kernel, by decide +kernel⟩
def wb_multiple_of : WS := (wSeq (wSet 1 (wC (.int 1))) (wSeq (wFor (wISeq (wVar 0)) (gN 2) (wSet 1 (wOp aMul (wVar 1) (wOp aDiv (wVar 2) (wCall aGcd (wCons (wVar 1) (wCons (wVar 2) wNil))))))) (wRet (wVar 1))))
theorem b_multiple_of (T : Txt P w K mg base Z) (f : Addr) (cdv : Value) (A : Around) (outer : List Env) (s : Shared) (H : Hp) (E : XK) (hr : Room 0 (A.deeper (envOfC "multiple_of" (defScope (topAt 17)) s.heap.objs.size f cdv))) :
    PSs (cxOf CX0 P w K mg base N_multiple_of "multiple_of" (defScope (topAt 17)) f cdv A outer s H E).nox (defBody (topAt 17)) (tS Z wb_multiple_of) :=
  (pds_cons (pd_set (i := 1) sc_multiple_of.nd rfl (.inl rfl) pd_int)
    (pds_cons (pd_for (pd_iseq T.z.k (pd_var (i := 0) rfl (.inl rfl))) (pd_gn (i := 2) (is := [2]) (by decide) sc_multiple_of.nd rfl (.inl rfl)) (pds_one (pd_set (i := 1) sc_multiple_of.nd rfl (.inl rfl) (pd_op op_mulW od_mul (pe_vw (pd_var (i := 1) rfl (.inl rfl))) (pe_vw (pd_op op_fdivW od_div (pe_vw (pd_var (i := 2) rfl (.inl rfl))) (pe_vw (pd_callBfun cd_gcd cr_gcd rfl T.c_gcd (pd_consV (pe_vw (pd_var (i := 1) rfl (.inl rfl))) (pd_consV (pe_vw (pd_var (i := 2) rfl (.inl rfl))) pd_nil))))))))) PassesOwn.never rfl)
    (pds_one (pd_ret (pd_var (i := 1) rfl (.inl rfl))))))
end
def multI (ns : List Int) : Int := ns.foldl (fun f n => f * (n / (Nat.gcd f.natAbs n.natAbs : Nat))) 1
def sp_multiple_of : WL := fun ds Q => ∃ (d : D) (ns : List Int), ds = [d] ∧ isInts d ns ∧ ns.length ≤ 1000 ∧ (∀ n ∈ ns, 1 ≤ n ∧ n < 2 ^ 20) ∧ Q (.int (multI ns))
theorem gcd_step {f n : Int} (hf : 1 ≤ f) (hn : 1 ≤ n) : 0 < ((Nat.gcd f.natAbs n.natAbs : Nat) : Int) ∧ ((Nat.gcd f.natAbs n.natAbs : Nat) : Int) ≤ n ∧ 1 ≤ n / ((Nat.gcd f.natAbs n.natAbs : Nat) : Int) ∧ n / ((Nat.gcd f.natAbs n.natAbs : Nat) : Int) ≤ n := by
  have h1 : 0 < Nat.gcd f.natAbs n.natAbs := Nat.gcd_pos_of_pos_right _ (by omega)
  have h2 : Nat.gcd f.natAbs n.natAbs ≤ n.natAbs := Nat.le_of_dvd (by omega) (Nat.gcd_dvd_right _ _)
  refine ⟨by omega, by omega, ?_, ?_⟩
  · exact Int.le_ediv_of_mul_le (by omega) (by omega)
  · exact Int.ediv_le_self _ (by omega)
theorem mult_loop (E : EndsD) (v : Sl) : ∀ (ns : List Int) (i : Nat) (f : Int) (s : Sl), 1 ≤ f → f.natAbs < 2 ^ (20 * i + 1) → i + ns.length ≤ 1000 → (∀ n ∈ ns, 1 ≤ n ∧ n < 2 ^ 20) →
    (∀ s, E.nx [v, .val (.int (ns.foldl (fun f n => f * (n / (Nat.gcd f.natAbs n.natAbs : Nat))) f)), s]) →
    forD (gN 2) (wSet 1 (wOp aMul (wVar 1) (wOp aDiv (wVar 2) (wCall aGcd (wCons (wVar 1) (wCons (wVar 2) wNil)))))) E (ns.map D.int) [v, .val (.int f), s]
  | [], i, f, s, _, _, _, _, q => by simpa using q s
  | n :: ns, i, f, s, h1, hb, hl, hn, q => by
    obtain ⟨hn1, hn2⟩ := hn n List.mem_cons_self
    obtain ⟨g1, g2, g3, g4⟩ := gcd_step h1 hn1
    have hl : i + (ns.length + 1) ≤ 1000 := hl
    have c1 : CDivW n ((Nat.gcd f.natAbs n.natAbs : Nat) : Int) := divW_of (b := 20) g1 (by omega)
    have q20 : (n / ((Nat.gcd f.natAbs n.natAbs : Nat) : Int)).natAbs < 2 ^ 20 := by omega
    have c2 : CMulW f (n / ((Nat.gcd f.natAbs n.natAbs : Nat) : Int)) := wide_mul hb q20 (by omega) (by decide) (by omega)
    have := mult_loop E v ns (i + 1) (f * (n / ((Nat.gcd f.natAbs n.natAbs : Nat) : Int))) (.val (.int n)) (by
      have := Int.mul_le_mul h1 g3 (by decide) (by omega); simpa using this) (by
      have := wide_lt hb q20; rw [show 20 * i + 1 + 20 = 20 * (i + 1) + 1 by omega] at this; exact this) (by omega) (fun m hm => hn m (List.mem_cons_of_mem _ hm)) q
    simpa [c1, c2] using this
theorem imp_multiple_of : ∀ ds Q, sp_multiple_of ds Q → ds.length = 1 ∧ wFn N_multiple_of wb_multiple_of ds Q := by
  rintro ds Q ⟨d, ns, rfl, h, hl, hn, q⟩
  refine ⟨rfl, ?_⟩
  simp [wb_multiple_of, N_multiple_of, -forD]
  refine iseq_ints h ?_
  exact mult_loop { nx := wRet (wVar 1) { nx := fun _ => Q .non, rt := Q }, rt := Q } (.val d) ns 0 1 .no (by decide) (by decide) (by omega) hn (fun s => by simpa [multI] using q)
theorem cal_multiple_of {P : Program} {w : World} {K : PySem.W.Frag} {mg : Str → Option Value} {base : Heap} {Z : Zc} (T : Txt P w K mg base Z) : Cal P w K mg base Z 1 "multiple_of" sp_multiple_of :=
  cal_of T.d_multiple_of sc_multiple_of imp_multiple_of fun f cdv A outer s H E hr => b_multiple_of T f cdv A outer s H E hr
section
variable {P : Program} {w : World} {K : PySem.W.Frag} {mg : Str → Option Value} {base : Heap} {Z : Zc}
/-! ### lowest_of -/
def N_lowest_of : List Str := ["top", "bottom", "share"]
theorem sc_lowest_of : FnScope N_lowest_of ["top", "bottom"] (defScope (topAt 21)) := ⟨rfl, rfl, rfl, by decide +kernel, rfl, by decide +kernel, by decide +kernel⟩
def wb_lowest_of : WS := (wSeq (wSet 2 (wIfE (wTest (wOp aGt (wVar 1) (wC (.int 0)))) (wCall aGcd (wCons (wVar 0) (wCons (wVar 1) wNil))) (wUn aNeg (wCall aGcd (wCons (wVar 0) (wCons (wVar 1) wNil)))))) (wRet (wTup (wCons (wOp aDiv (wVar 0) (wVar 2)) (wCons (wOp aDiv (wVar 1) (wVar 2)) wNil)))))
theorem b_lowest_of (T : Txt P w K mg base Z) (f : Addr) (cdv : Value) (A : Around) (outer : List Env) (s : Shared) (H : Hp) (E : XK) (hr : Room 0 (A.deeper (envOfC "lowest_of" (defScope (topAt 21)) s.heap.objs.size f cdv))) :
    PSs (cxOf CX0 P w K mg base N_lowest_of "lowest_of" (defScope (topAt 21)) f cdv A outer s H E).nox (defBody (topAt 21)) (tS Z wb_lowest_of) :=
  (pds_cons (pd_set (i := 2) sc_lowest_of.nd rfl (.inl rfl) (pd_ifE (pt_cmpD op_gt od_gt (pe_vw (pd_var (i := 1) rfl (.inl rfl))) (pe_vw pd_int)) (pd_callBfun cd_gcd cr_gcd rfl T.c_gcd (pd_consV (pe_vw (pd_var (i := 0) rfl (.inl rfl))) (pd_consV (pe_vw (pd_var (i := 1) rfl (.inl rfl))) pd_nil))) (pd_un un_neg ud_neg (pe_vw (pd_callBfun cd_gcd cr_gcd rfl T.c_gcd (pd_consV (pe_vw (pd_var (i := 0) rfl (.inl rfl))) (pd_consV (pe_vw (pd_var (i := 1) rfl (.inl rfl))) pd_nil)))))))
    (pds_one (pd_ret (pd_tup (pd_cons (pd_op op_fdivW od_div (pe_vw (pd_var (i := 0) rfl (.inl rfl))) (pe_vw (pd_var (i := 2) rfl (.inl rfl)))) (pd_cons (pd_op op_fdivW od_div (pe_vw (pd_var (i := 1) rfl (.inl rfl))) (pe_vw (pd_var (i := 2) rfl (.inl rfl)))) pd_nil))))))
end
/-- the lowest form -/
def lowI (a b : Int) : List Int := [a / (Nat.gcd a.natAbs b.natAbs : Nat), b / (Nat.gcd a.natAbs b.natAbs : Nat)]
def sp_lowest_of : WL := fun ds Q => ∃ a b : Int, ds = [.int a, .int b] ∧ 0 < b ∧ b.natAbs < 2 ^ 9000 ∧ Q (.tup ((lowI a b).map D.int))
theorem gcd_pos_r {a b : Int} (h : 0 < b) : 0 < ((Nat.gcd a.natAbs b.natAbs : Nat) : Int) := by
  have h1 : 0 < Nat.gcd a.natAbs b.natAbs := Nat.gcd_pos_of_pos_right _ (by omega)
  omega
theorem gcd_le_r {a b : Int} (h : 0 < b) : ((Nat.gcd a.natAbs b.natAbs : Nat) : Int).natAbs ≤ b.natAbs := by
  have h2 : Nat.gcd a.natAbs b.natAbs ≤ b.natAbs := Nat.le_of_dvd (by omega) (Nat.gcd_dvd_right _ _)
  omega
theorem imp_lowest_of : ∀ ds Q, sp_lowest_of ds Q → ds.length = 2 ∧ wFn N_lowest_of wb_lowest_of ds Q := by
  rintro ds Q ⟨a, b, rfl, hb, h2, q⟩
  refine ⟨rfl, ?_⟩
  have c : ∀ x, CDivW x ((Nat.gcd a.natAbs b.natAbs : Nat) : Int) := fun x => divW_of (b := 9000) (gcd_pos_r hb) (Nat.lt_of_le_of_lt (gcd_le_r hb) h2)
  simp [wb_lowest_of, N_lowest_of, hb]
  exact ⟨c a, c b, q⟩
theorem cal_lowest_of {P : Program} {w : World} {K : PySem.W.Frag} {mg : Str → Option Value} {base : Heap} {Z : Zc} (T : Txt P w K mg base Z) : Cal P w K mg base Z 1 "lowest_of" sp_lowest_of :=
  cal_of T.d_lowest_of sc_lowest_of imp_lowest_of fun f cdv A outer s H E hr => b_lowest_of T f cdv A outer s H E hr
end DL

namespace DL
open PySem PySem.Spec PyProof.Rows L2
/-! ### numbers of a row -/
theorem star_both {ts bs : List Int} : (List.map D.int ts ++ List.map D.int bs) = (ts ++ bs).map D.int := by rw [List.map_append]
theorem isInts_l (ns : List Int) : isInts (.lst (ns.map D.int)) ns := .inl rfl
theorem isInts_t (ns : List Int) : isInts (.tup (ns.map D.int)) ns := .inr rfl
theorem aOver_l (R : List Int → (Int → Prop) → Prop) (ns : List Int) (Q : D → Prop) (h : R ns fun m => Q (.int m)) : aOver R [.lst (ns.map D.int)] Q := ⟨_, ns, rfl, isInts_l ns, h⟩
theorem aOver_t (R : List Int → (Int → Prop) → Prop) (ns : List Int) (Q : D → Prop) (h : R ns fun m => Q (.int m)) : aOver R [.tup (ns.map D.int)] Q := ⟨_, ns, rfl, isInts_t ns, h⟩
section
variable {P : Program} {w : World} {K : PySem.W.Frag} {mg : Str → Option Value} {base : Heap} {Z : Zc}
/-! ### greatest -/
def N_greatest : List Str := ["self"]
theorem sc_greatest : FnScope N_greatest ["self"] (defScope (clsAt 38 7)) := ⟨rfl, rfl, rfl, by decide +kernel, rfl, by decide +kernel, by decide +kernel⟩
def wb_greatest : WS := (wRet (wCall aMax (wCons (wLst (wStar (wTops (wVar 0)) (wStar (wBots (wVar 0)) wNil))) wNil)))
theorem b_greatest (T : Txt P w K mg base Z) (f : Addr) (cdv : Value) (A : Around) (outer : List Env) (s : Shared) (H : Hp) (E : XK) (hr : Room 0 (A.deeper (envOfC "Quotient.greatest" (defScope (clsAt 38 7)) s.heap.objs.size f cdv))) :
    PSs (cxOf CX0 P w K mg base N_greatest "Quotient.greatest" (defScope (clsAt 38 7)) f cdv A outer s H E).nox (defBody (clsAt 38 7)) (tS Z wb_greatest) :=
  (pds_one (pd_ret (pd_callB (cd_max T.z.k) (max_any rfl (hu_of hr)) rfl T.h_max boot_max (pd_consV (pe_nv (pd_lst (pd_star T.z.k (pd_tops T.z (pd_var (i := 0) rfl (.inl rfl))) (pd_star T.z.k (pd_bots T.z (pd_var (i := 0) rfl (.inl rfl))) pd_nil)))) pd_nil))))
end
section
variable {P : Program} {w : World} {K : PySem.W.Frag} {mg : Str → Option Value} {base : Heap} {Z : Zc}
/-! ### common -/
def N_common : List Str := ["self"]
theorem sc_common : FnScope N_common ["self"] (defScope (clsAt 38 8)) := ⟨rfl, rfl, rfl, by decide +kernel, rfl, by decide +kernel, by decide +kernel⟩
def wb_common : WS := (wRet (wCall sp_multiple_of (wCons (wLst (wStar (wTops (wVar 0)) (wStar (wBots (wVar 0)) wNil))) wNil)))
theorem b_common (T : Txt P w K mg base Z) (f : Addr) (cdv : Value) (A : Around) (outer : List Env) (s : Shared) (H : Hp) (E : XK) (hr : Room 1 (A.deeper (envOfC "Quotient.common" (defScope (clsAt 38 8)) s.heap.objs.size f cdv))) :
    PSs (cxOf CX0 P w K mg base N_common "Quotient.common" (defScope (clsAt 38 8)) f cdv A outer s H E).nox (defBody (clsAt 38 8)) (tS Z wb_common) :=
  (pds_one (pd_ret (pd_call (cal_multiple_of T) hr (by decide) rfl (pd_cons (pe_frz (pd_lst (pd_star T.z.k (pd_tops T.z (pd_var (i := 0) rfl (.inl rfl))) (pd_star T.z.k (pd_bots T.z (pd_var (i := 0) rfl (.inl rfl))) pd_nil)))) pd_nil))))
end
section
variable {P : Program} {w : World} {K : PySem.W.Frag} {mg : Str → Option Value} {base : Heap} {Z : Zc}
/-! ### excess -/
def N_excess : List Str := ["self"]
theorem sc_excess : FnScope N_excess ["self"] (defScope (clsAt 38 9)) := ⟨rfl, rfl, rfl, by decide +kernel, rfl, by decide +kernel, by decide +kernel⟩
def wb_excess : WS := (wRet (wOp aSub (wCall aSum (wCons (wTops (wVar 0)) wNil)) (wCall aSum (wCons (wBots (wVar 0)) wNil))))
theorem b_excess (T : Txt P w K mg base Z) (f : Addr) (cdv : Value) (A : Around) (outer : List Env) (s : Shared) (H : Hp) (E : XK) (hr : Room 0 (A.deeper (envOfC "Quotient.excess" (defScope (clsAt 38 9)) s.heap.objs.size f cdv))) :
    PSs (cxOf CX0 P w K mg base N_excess "Quotient.excess" (defScope (clsAt 38 9)) f cdv A outer s H E).nox (defBody (clsAt 38 9)) (tS Z wb_excess) :=
  (pds_one (pd_ret (pd_op op_sub od_sub (pe_vw (pd_callB (cd_sum T.z.k) (sum_any rfl) rfl T.h_sum boot_sum (pd_consV (pe_vw (pd_tops T.z (pd_var (i := 0) rfl (.inl rfl)))) pd_nil))) (pe_vw (pd_callB (cd_sum T.z.k) (sum_any rfl) rfl T.h_sum boot_sum (pd_consV (pe_vw (pd_bots T.z (pd_var (i := 0) rfl (.inl rfl)))) pd_nil))))))
end
/-- the size that a row may have -/
def Small (ts bs : List Int) : Prop := (∀ m ∈ ts ++ bs, 1 ≤ m ∧ m ≤ 60) ∧ ts.length ≤ 8 ∧ bs.length ≤ 8 ∧ ts ++ bs ≠ []
theorem Small.len {ts bs : List Int} (h : Small ts bs) : (ts ++ bs).length ≤ 16 := by rw [List.length_append]; have := h.2.1; have := h.2.2.1; omega
theorem Small.sz {ts bs : List Int} (h : Small ts bs) : ts.length + bs.length ≤ sizeLine := by have := size_big; have := h.2.1; have := h.2.2.1; omega
def sp_greatest : WL := fun ds Q => ∃ ts bs, ds = [.row ts bs] ∧ Small ts bs ∧ Q (.int (maxL (ts ++ bs)))
@[simp] theorem sp_greatest_eq (ts bs : List Int) (Q : D → Prop) : sp_greatest [.row ts bs] Q = (Small ts bs ∧ Q (.int (maxL (ts ++ bs)))) := by
  apply propext
  constructor
  · rintro ⟨_, _, e, q⟩; cases e; exact q
  · exact fun q => ⟨_, _, rfl, q⟩
theorem imp_greatest : ∀ ds Q, sp_greatest ds Q → ds.length = 1 ∧ wFn N_greatest wb_greatest ds Q := by
  rintro ds Q ⟨ts, bs, rfl, h, q⟩
  refine ⟨rfl, ?_⟩
  simp [wb_greatest, N_greatest, h.sz, -aOver]
  rw [star_both]
  exact aOver_l _ _ _ ⟨h.2.2.2, q⟩
theorem at_greatest {P : Program} {w : World} {K : PySem.W.Frag} {mg : Str → Option Value} {base : Heap} {Z : Zc} (T : Txt P w K mg base Z) : PropAt P w K mg base Z 1 "greatest" sp_greatest := by
  obtain ⟨p, f, h1, h2, h3, h4, h5⟩ := T.p_greatest
  exact ⟨p, f, h1, h2, h3, h4, fnr_of h5 sc_greatest imp_greatest fun cdv A outer s H E hr => b_greatest T f cdv A outer s H E hr⟩
def sp_common : WL := fun ds Q => ∃ ts bs, ds = [.row ts bs] ∧ Small ts bs ∧ Q (.int (multI (ts ++ bs)))
@[simp] theorem sp_common_eq (ts bs : List Int) (Q : D → Prop) : sp_common [.row ts bs] Q = (Small ts bs ∧ Q (.int (multI (ts ++ bs)))) := by
  apply propext
  constructor
  · rintro ⟨_, _, e, q⟩; cases e; exact q
  · exact fun q => ⟨_, _, rfl, q⟩
theorem imp_common : ∀ ds Q, sp_common ds Q → ds.length = 1 ∧ wFn N_common wb_common ds Q := by
  rintro ds Q ⟨ts, bs, rfl, h, q⟩
  refine ⟨rfl, ?_⟩
  simp [wb_common, N_common, h.sz, -aOver]
  rw [star_both]
  exact ⟨_, _, rfl, isInts_l _, by have := h.len; omega, fun n hn => by have := h.1 n hn; omega, q⟩
theorem at_common {P : Program} {w : World} {K : PySem.W.Frag} {mg : Str → Option Value} {base : Heap} {Z : Zc} (T : Txt P w K mg base Z) : PropAt P w K mg base Z 2 "common" sp_common := by
  obtain ⟨p, f, h1, h2, h3, h4, h5⟩ := T.p_common
  exact ⟨p, f, h1, h2, h3, h4, fnr_of h5 sc_common imp_common fun cdv A outer s H E hr => b_common T f cdv A outer s H E hr⟩
def sp_excess : WL := fun ds Q => ∃ ts bs, ds = [.row ts bs] ∧ Q (.int (ts.sum - bs.sum))
@[simp] theorem sp_excess_eq (ts bs : List Int) (Q : D → Prop) : sp_excess [.row ts bs] Q = Q (.int (ts.sum - bs.sum)) := by
  apply propext
  constructor
  · rintro ⟨_, _, e, q⟩; cases e; exact q
  · exact fun q => ⟨_, _, rfl, q⟩
theorem imp_excess : ∀ ds Q, sp_excess ds Q → ds.length = 1 ∧ wFn N_excess wb_excess ds Q := by
  rintro ds Q ⟨ts, bs, rfl, q⟩
  refine ⟨rfl, ?_⟩
  simp [wb_excess, N_excess, -aOver]
  exact aOver_t _ _ _ (aOver_t _ _ _ q)
theorem at_excess {P : Program} {w : World} {K : PySem.W.Frag} {mg : Str → Option Value} {base : Heap} {Z : Zc} (T : Txt P w K mg base Z) : PropAt P w K mg base Z 1 "excess" sp_excess := by
  obtain ⟨p, f, h1, h2, h3, h4, h5⟩ := T.p_excess
  exact ⟨p, f, h1, h2, h3, h4, fnr_of h5 sc_excess imp_excess fun cdv A outer s H E hr => b_excess T f cdv A outer s H E hr⟩
theorem factI_mono : ∀ {m n : Nat}, m ≤ n → factI m ≤ factI n
  | m, 0, h => by rw [Nat.le_zero.mp h]; exact Int.le_refl _
  | m, n + 1, h => by
    by_cases e : m = n + 1
    · rw [e]; exact Int.le_refl _
    · have h1 := factI_mono (show m ≤ n by omega)
      have h2 : factI n * 1 ≤ factI n * (n + 1) := Int.mul_le_mul_of_nonneg_left (by omega) (Int.le_of_lt (factI_pos n))
      rw [Int.mul_one] at h2
      exact Int.le_trans h1 h2
theorem fact120 : factI 120 < 2 ^ 670 := by decide +kernel
theorem fact_bits {n : Nat} (h : n ≤ 120) : (factI n).natAbs < 2 ^ 670 := by
  have h1 := factI_mono h
  have h2 := fact120
  have h3 := factI_pos n
  have : (factI n) < 2 ^ 670 := Int.lt_of_le_of_lt h1 h2
  omega
section
variable {P : Program} {w : World} {K : PySem.W.Frag} {mg : Str → Option Value} {base : Heap} {Z : Zc}
/-! ### product_of_factorials -/
def N_product_of_factorials : List Str := ["members", "number", "found", "member"]
theorem sc_product_of_factorials : FnScope N_product_of_factorials ["members", "number"] (defScope (topAt 36)) := ⟨rfl, rfl, rfl, by decide +kernel, rfl, by decide +kernel, by decide +kernel⟩
def wb_product_of_factorials : WS := (wSeq (wSet 2 (wC (.int 1))) (wSeq (wFor (wISeq (wVar 0)) (gN 3) (wAug 2 aMul (wCall sp_factorial_of (wCons (wOp aMul (wVar 3) (wVar 1)) wNil)))) (wRet (wVar 2))))
theorem b_product_of_factorials (T : Txt P w K mg base Z) (f : Addr) (cdv : Value) (A : Around) (outer : List Env) (s : Shared) (H : Hp) (E : XK) (hr : Room 1 (A.deeper (envOfC "product_of_factorials" (defScope (topAt 36)) s.heap.objs.size f cdv))) :
    PSs (cxOf CX0 P w K mg base N_product_of_factorials "product_of_factorials" (defScope (topAt 36)) f cdv A outer s H E).nox (defBody (topAt 36)) (tS Z wb_product_of_factorials) :=
  (pds_cons (pd_set (i := 2) sc_product_of_factorials.nd rfl (.inl rfl) pd_int)
    (pds_cons (pd_for (pd_iseq T.z.k (pd_var (i := 0) rfl (.inl rfl))) (pd_gn (i := 3) (is := [3]) (by decide) sc_product_of_factorials.nd rfl (.inl rfl)) (pds_one (pd_aug (i := 2) sc_product_of_factorials.nd rfl (.inl rfl) (pe_vw (pd_call (cal_factorial_of T) hr (by decide) rfl (pd_cons (pd_op op_mulW od_mul (pe_vw (pd_var (i := 3) rfl (.inl rfl))) (pe_vw (pd_var (i := 1) rfl (.inl rfl)))) pd_nil))) iop_mulG od_mul)) PassesOwn.never rfl)
    (pds_one (pd_ret (pd_var (i := 2) rfl (.inl rfl))))))
end
def prodF (n : Nat) (ms : List Int) : Int := ms.foldl (fun f m => f * factI (m * (n : Int)).toNat) 1
def sp_product_of_factorials : WL := fun ds Q => ∃ (d : D) (ms : List Int) (n : Nat), ds = [d, .int n] ∧ isInts d ms ∧ ms.length ≤ 8 ∧ (∀ m ∈ ms, 1 ≤ m ∧ m ≤ 60 ∧ m * n ≤ 120) ∧ Q (.int (prodF n ms))
theorem sp_factorial_of_i (i : Int) (h0 : 0 ≤ i) (h : i ≤ 600) {Q : D → Prop} (q : Q (.int (factI i.toNat))) : sp_factorial_of [.int i] Q := ⟨i.toNat, by rw [Int.toNat_of_nonneg h0], by omega, q⟩
theorem prodF_bits (n : Nat) : ∀ (ms : List Int) (f : Int) (i : Nat), f.natAbs < 2 ^ (670 * i + 1) → (∀ m ∈ ms, 1 ≤ m ∧ m ≤ 60 ∧ m * n ≤ 120) → (ms.foldl (fun f m => f * factI (m * (n : Int)).toNat) f).natAbs < 2 ^ (670 * (i + ms.length) + 1)
  | [], f, i, h, _ => h
  | m :: ms, f, i, h, hm => by
    have h1 := fact_bits (n := (m * (n : Int)).toNat) (by have := (hm m List.mem_cons_self).2.2; omega)
    have h2 := wide_lt h h1
    rw [show 670 * i + 1 + 670 = 670 * (i + 1) + 1 by omega] at h2
    have := prodF_bits n ms (f * factI (m * (n : Int)).toNat) (i + 1) h2 fun k hk => hm k (List.mem_cons_of_mem _ hk)
    rw [show i + 1 + ms.length = i + (m :: ms).length by simp; omega] at this
    exact this
theorem prodF_small (n : Nat) (ms : List Int) (h : ms.length ≤ 8) (hm : ∀ m ∈ ms, 1 ≤ m ∧ m ≤ 60 ∧ m * n ≤ 120) : (prodF n ms).natAbs < 2 ^ 9000 := by
  have := prodF_bits n ms 1 0 (by decide) hm
  exact Nat.lt_of_lt_of_le this (Nat.pow_le_pow_right (by decide) (by omega))
theorem prodF_pos (n : Nat) : ∀ (ms : List Int) (f : Int), 0 < f → 0 < ms.foldl (fun f m => f * factI (m * (n : Int)).toNat) f
  | [], f, h => h
  | m :: ms, f, h => prodF_pos n ms (f * factI (m * (n : Int)).toNat) (Int.mul_pos h (factI_pos _))
theorem prodF_loop (E : EndsD) (v : Sl) (n : Nat) : ∀ (ms : List Int) (i : Nat) (f : Int) (s : Sl), f.natAbs < 2 ^ (670 * i + 1) → i + ms.length ≤ 8 → (∀ m ∈ ms, 1 ≤ m ∧ m ≤ 60 ∧ m * n ≤ 120) →
    (∀ s, E.nx [v, .val (.int n), .val (.int (ms.foldl (fun f m => f * factI (m * (n : Int)).toNat) f)), s]) →
    forD (gN 3) (wAug 2 aMul (wCall sp_factorial_of (wCons (wOp aMul (wVar 3) (wVar 1)) wNil))) E (ms.map D.int) [v, .val (.int n), .val (.int f), s]
  | [], i, f, s, _, _, _, q => by simpa using q s
  | m :: ms, i, f, s, hb, hl, hm, q => by
    obtain ⟨m0, m60, m1⟩ := hm m List.mem_cons_self
    have n1 : (n : Int) ≤ 120 := by
      have := Int.mul_le_mul_of_nonneg_right m0 (show (0 : Int) ≤ n by omega)
      omega
    have hl : i + (ms.length + 1) ≤ 8 := hl
    have p0 : 0 ≤ m * n := Int.mul_nonneg (by omega) (by omega)
    have h1 := fact_bits (n := (m * (n : Int)).toNat) (by omega)
    have c1 : CMulW m n := mulW_of (a := 10) (b := 10) (by omega) (by omega)
    have c2 : CMulW f (factI (m * (n : Int)).toNat) := wide_mul hb h1 (by omega) (by decide) (by omega)
    have h2 := wide_lt hb h1
    rw [show 670 * i + 1 + 670 = 670 * (i + 1) + 1 by omega] at h2
    have := prodF_loop E v n ms (i + 1) (f * factI (m * (n : Int)).toNat) (.val (.int m)) h2 (by omega) (fun k hk => hm k (List.mem_cons_of_mem _ hk)) q
    simp [c1]
    exact sp_factorial_of_i _ p0 (by omega) (by simpa [c2] using this)
theorem imp_product_of_factorials : ∀ ds Q, sp_product_of_factorials ds Q → ds.length = 2 ∧ wFn N_product_of_factorials wb_product_of_factorials ds Q := by
  rintro ds Q ⟨d, ms, n, rfl, h, hl, hm, q⟩
  refine ⟨rfl, ?_⟩
  simp [wb_product_of_factorials, N_product_of_factorials, -forD]
  refine iseq_ints h ?_
  exact prodF_loop { nx := wRet (wVar 2) { nx := fun _ => Q .non, rt := Q }, rt := Q } (.val d) n ms 0 1 .no (by decide) (by omega) hm (fun s => by simpa [prodF] using q)
theorem cal_product_of_factorials {P : Program} {w : World} {K : PySem.W.Frag} {mg : Str → Option Value} {base : Heap} {Z : Zc} (T : Txt P w K mg base Z) : Cal P w K mg base Z 2 "product_of_factorials" sp_product_of_factorials :=
  cal_of T.d_product_of_factorials sc_product_of_factorials imp_product_of_factorials fun f cdv A outer s H E hr => b_product_of_factorials T f cdv A outer s H E hr
section
variable {P : Program} {w : World} {K : PySem.W.Frag} {mg : Str → Option Value} {base : Heap} {Z : Zc}
/-! ### value_of -/
def N_value_of : List Str := ["row", "number"]
theorem sc_value_of : FnScope N_value_of ["row", "number"] (defScope (topAt 42)) := ⟨rfl, rfl, rfl, by decide +kernel, rfl, by decide +kernel, by decide +kernel⟩
def wb_value_of : WS := (wRet (wCall sp_lowest_of (wCons (wCall sp_product_of_factorials (wCons (wTops (wVar 0)) (wCons (wVar 1) wNil))) (wCons (wCall sp_product_of_factorials (wCons (wBots (wVar 0)) (wCons (wVar 1) wNil))) wNil))))
theorem b_value_of (T : Txt P w K mg base Z) (f : Addr) (cdv : Value) (A : Around) (outer : List Env) (s : Shared) (H : Hp) (E : XK) (hr : Room 2 (A.deeper (envOfC "value_of" (defScope (topAt 42)) s.heap.objs.size f cdv))) :
    PSs (cxOf CX0 P w K mg base N_value_of "value_of" (defScope (topAt 42)) f cdv A outer s H E).nox (defBody (topAt 42)) (tS Z wb_value_of) :=
  (pds_one (pd_ret (pd_call (cal_lowest_of T) hr (by decide) rfl (pd_cons (pd_call (cal_product_of_factorials T) hr (by decide) rfl (pd_cons (pd_tops T.z (pd_var (i := 0) rfl (.inl rfl))) (pd_cons (pd_var (i := 1) rfl (.inl rfl)) pd_nil))) (pd_cons (pd_call (cal_product_of_factorials T) hr (by decide) rfl (pd_cons (pd_bots T.z (pd_var (i := 0) rfl (.inl rfl))) (pd_cons (pd_var (i := 1) rfl (.inl rfl)) pd_nil))) pd_nil)))))
end
def sp_value_of : WL := fun ds Q => ∃ (ts bs : List Int) (n : Nat), ds = [.row ts bs, .int n] ∧ Small ts bs ∧ maxL (ts ++ bs) * n ≤ 120 ∧ Q (.tup ((lowI (prodF n ts) (prodF n bs)).map D.int))
theorem Small.le_max {ts bs : List Int} (h : Small ts bs) {n : Nat} (hn : maxL (ts ++ bs) * n ≤ 120) : (∀ m ∈ ts, 1 ≤ m ∧ m ≤ 60 ∧ m * n ≤ 120) ∧ ∀ m ∈ bs, 1 ≤ m ∧ m ≤ 60 ∧ m * n ≤ 120 := by
  have key : ∀ m ∈ ts ++ bs, 1 ≤ m ∧ m ≤ 60 ∧ m * n ≤ 120 := fun m hm => by
    have h1 := h.1 m hm
    have h2 : m * n ≤ maxL (ts ++ bs) * n := Int.mul_le_mul_of_nonneg_right (maxL_ge hm) (by omega)
    omega
  exact ⟨fun m hm => key m (List.mem_append_left _ hm), fun m hm => key m (List.mem_append_right _ hm)⟩
theorem imp_value_of : ∀ ds Q, sp_value_of ds Q → ds.length = 2 ∧ wFn N_value_of wb_value_of ds Q := by
  rintro ds Q ⟨ts, bs, n, rfl, h, hn, q⟩
  refine ⟨rfl, ?_⟩
  obtain ⟨k1, k2⟩ := h.le_max hn
  simp [wb_value_of, N_value_of]
  refine ⟨_, ts, n, rfl, isInts_t ts, h.2.1, k1, ?_⟩
  refine ⟨_, bs, n, rfl, isInts_t bs, h.2.2.1, k2, ?_⟩
  exact ⟨_, _, rfl, prodF_pos n bs 1 (by decide), prodF_small n bs h.2.2.1 k2, q⟩
theorem cal_value_of {P : Program} {w : World} {K : PySem.W.Frag} {mg : Str → Option Value} {base : Heap} {Z : Zc} (T : Txt P w K mg base Z) : Cal P w K mg base Z 3 "value_of" sp_value_of :=
  cal_of T.d_value_of sc_value_of imp_value_of fun f cdv A outer s H E hr => b_value_of T f cdv A outer s H E hr
section
variable {P : Program} {w : World} {K : PySem.W.Frag} {mg : Str → Option Value} {base : Heap} {Z : Zc}
/-! ### value -/
def N_value : List Str := ["self", "number"]
theorem sc_value : FnScope N_value ["self", "number"] (defScope (clsAt 38 12)) := ⟨rfl, rfl, rfl, by decide +kernel, rfl, by decide +kernel, by decide +kernel⟩
def wb_value : WS := (wSeq (wExpr (wCall sp_require_within (wCons (wVar 1) (wCons (wC (.int 0)) (wCons (wC (.int 600)) wNil))))) (wSeq (wIf (wTest (wOp aGt (wOp aMul (wVar 1) (wCall aMax (wCons (wLst (wStar (wTops (wVar 0)) (wStar (wBots (wVar 0)) wNil))) wNil))) (wC (.int 600)))) wNever wNext) (wRet (wCall sp_value_of (wCons (wVar 0) (wCons (wVar 1) wNil))))))
theorem b_value (T : Txt P w K mg base Z) (f : Addr) (cdv : Value) (A : Around) (outer : List Env) (s : Shared) (H : Hp) (E : XK) (hr : Room 3 (A.deeper (envOfC "Quotient.value" (defScope (clsAt 38 12)) s.heap.objs.size f cdv))) :
    PSs (cxOf CX0 P w K mg base N_value "Quotient.value" (defScope (clsAt 38 12)) f cdv A outer s H E).nox (defBody (clsAt 38 12)) (tS Z wb_value) :=
  (pds_cons (pd_expr (pd_call (cal_require_within T) hr (by decide) rfl (pd_cons (pd_var (i := 1) rfl (.inl rfl)) (pd_cons pd_int (pd_cons (pd_globI T.c_MOST_FACTORIAL rfl) pd_nil)))))
    (pds_cons (pd_if (pt_cmpD op_gt od_gt (pe_vw (pd_op op_mulW od_mul (pe_vw (pd_var (i := 1) rfl (.inl rfl))) (pe_vw (pd_callB (cd_max T.z.k) (max_any rfl (hu_of hr)) rfl T.h_max boot_max (pd_consV (pe_nv (pd_lst (pd_star T.z.k (pd_tops T.z (pd_var (i := 0) rfl (.inl rfl))) (pd_star T.z.k (pd_bots T.z (pd_var (i := 0) rfl (.inl rfl))) pd_nil)))) pd_nil))))) (pe_vw (pd_globI T.c_MOST_FACTORIAL rfl))) pds_never pds_nil)
    (pds_one (pd_ret (pd_call (cal_value_of T) hr (by decide) rfl (pd_cons (pd_var (i := 0) rfl (.inl rfl)) (pd_cons (pd_var (i := 1) rfl (.inl rfl)) pd_nil)))))))
end
def sp_value : WL := sp_value_of
theorem imp_value : ∀ ds Q, sp_value ds Q → ds.length = 2 ∧ wFn N_value wb_value ds Q := by
  rintro ds Q ⟨ts, bs, n, rfl, h, hn, q⟩
  refine ⟨rfl, ?_⟩
  obtain ⟨k1, k2⟩ := h.le_max hn
  have hm := h.1 _ (maxL_mem h.2.2.2)
  have hn2 : (n : Int) ≤ 120 := by
    have := Int.mul_le_mul_of_nonneg_right hm.1 (show (0 : Int) ≤ n by omega)
    omega
  have c1 : CMulW n (maxL (ts ++ bs)) := mulW_of (a := 10) (b := 10) (by omega) (by omega)
  have hlt : ¬ (600 < (n : Int) * maxL (ts ++ bs)) := by rw [Int.mul_comm]; omega
  simp [wb_value, N_value, h.sz, -aOver]
  refine ⟨by omega, ?_⟩
  rw [star_both]
  refine aOver_l _ _ _ ⟨h.2.2.2, ?_⟩
  simp [c1, hlt]
  exact ⟨ts, bs, n, rfl, h, hn, q⟩
theorem at_value {P : Program} {w : World} {K : PySem.W.Frag} {mg : Str → Option Value} {base : Heap} {Z : Zc} (T : Txt P w K mg base Z) : MethAt P w K mg base Z 4 "value" sp_value := by
  obtain ⟨f, h1, h2⟩ := T.m_value
  exact ⟨f, h1, fnr_of h2 sc_value imp_value fun cdv A outer s H E hr => b_value T f cdv A outer s H E hr⟩
end DL

namespace DL
open PySem PySem.Spec PyProof.Rows L2
/-! ### exponents -/
def floors (ms : List Int) (n q : Int) : Int := (ms.map fun m => m * n / q).sum
def expoF (ts bs : List Int) (p n most : Int) : Nat → Int → Int
  | 0, _ => 0
  | f + 1, q => if q ≤ most then (floors ts n q - floors bs n q) + expoF ts bs p n most f (q * p) else 0
/-- the exponent of p at n -/
def expo (ts bs : List Int) (p n : Int) : Int := expoF ts bs p n (maxL (ts ++ bs) * n) 110 p
theorem sum_divs {n q : Int} {env : En} {ms : List Int} {K : D → Prop} (h2 : env[2]? = some (.val (.int n))) (h4 : env[4]? = some (.val (.int q))) (h6 : 6 < env.length) (hn : n.natAbs < 2 ^ 100) (hq : 0 < q) (hq2 : q.natAbs < 2 ^ 110)
    (hm : ∀ m ∈ ms, 1 ≤ m ∧ m ≤ 60) (hl : ms.length ≤ 8) (k : K (.int (floors ms n q))) :
    lcD (gN 6) wYes (wOp aDiv (wOp aMul (wVar 6) (wVar 2)) (wVar 4)) env (fun acc => aSum [.lst acc] K) (ms.map D.int) [] := by
  refine lc_map D.int (fun m => .int (m * n / q)) ms (fun m hm' K1 k1 => ?_) (by have := size_big; omega) ?_
  · obtain ⟨a, b⟩ := hm m hm'
    have c1 : CMulW m n := mulW_of (a := 6) (b := 100) (by omega) hn
    have c2 : CDivW (m * n) q := divW_of hq hq2
    have e2 : (env.set 6 (.val (.int m)))[2]? = some (.val (.int n)) := by rw [List.getElem?_set_ne (by decide)]; exact h2
    have e4 : (env.set 6 (.val (.int m)))[4]? = some (.val (.int q)) := by rw [List.getElem?_set_ne (by decide)]; exact h4
    have e6 : (env.set 6 (.val (.int m)))[6]? = some (.val (.int m)) := List.getElem?_set_self h6
    show wOp aDiv (wOp aMul (wVar 6) (wVar 2)) (wVar 4) (env.set 6 (.val (.int m))) K1
    exact ⟨_, e6, _, e2, c1, _, e4, c2, k1⟩
  · have e : ms.map (fun m => D.int (m * n / q)) = (ms.map fun m => m * n / q).map D.int := by rw [List.map_map]; rfl
    rw [e]
    exact aOver_l _ _ _ k
section
variable {P : Program} {w : World} {K : PySem.W.Frag} {mg : Str → Option Value} {base : Heap} {Z : Zc}
/-! ### exponent_of_row -/
def N_exponent_of_row : List Str := ["row", "prime", "number", "found", "power", "most", "one"]
theorem sc_exponent_of_row : FnScope N_exponent_of_row ["row", "prime", "number"] (defScope (topAt 43)) := ⟨rfl, rfl, rfl, by decide +kernel, rfl, by decide +kernel, by decide +kernel⟩
def wb_exponent_of_row : WS := (wSeq (wAsg (wTup (wCons (wC (.int 0)) (wCons (wVar 1) (wCons (wOp aMul (wVar 2) (wCall aMax (wCons (wLst (wStar (wTops (wVar 0)) (wStar (wBots (wVar 0)) wNil))) wNil))) wNil)))) (gT 3 (gsC (gN 3) (gsC (gN 4) (gsC (gN 5) gsN))))) (wSeq (wWhile (wTest (wOp aLe (wVar 4) (wVar 5))) (wSeq (wAug 3 aAdd (wCall aSum (wCons (wLc (wIT (wTops (wVar 0))) (gN 6) wYes (wOp aDiv (wOp aMul (wVar 6) (wVar 2)) (wVar 4)) [6]) wNil))) (wSeq (wAug 3 aSub (wCall aSum (wCons (wLc (wIT (wBots (wVar 0))) (gN 6) wYes (wOp aDiv (wOp aMul (wVar 6) (wVar 2)) (wVar 4)) [6]) wNil))) (wAug 4 aMul (wVar 1))))) (wRet (wVar 3))))
theorem b_exponent_of_row (T : Txt P w K mg base Z) (f : Addr) (cdv : Value) (A : Around) (outer : List Env) (s : Shared) (H : Hp) (E : XK) (hr : Room 0 (A.deeper (envOfC "exponent_of_row" (defScope (topAt 43)) s.heap.objs.size f cdv))) :
    PSs (cxOf CX0 P w K mg base N_exponent_of_row "exponent_of_row" (defScope (topAt 43)) f cdv A outer s H E).nox (defBody (topAt 43)) (tS Z wb_exponent_of_row) :=
  (pds_cons (pd_asg (pd_tup (pd_cons pd_int (pd_cons (pd_var (i := 1) rfl (.inl rfl)) (pd_cons (pd_op op_mulW od_mul (pe_vw (pd_var (i := 2) rfl (.inr (.inl rfl)))) (pe_vw (pd_callB (cd_max T.z.k) (max_any rfl (hu_of hr)) rfl T.h_max boot_max (pd_consV (pe_nv (pd_lst (pd_star T.z.k (pd_tops T.z (pd_var (i := 0) rfl (.inl rfl))) (pd_star T.z.k (pd_bots T.z (pd_var (i := 0) rfl (.inl rfl))) pd_nil)))) pd_nil)))) pd_nil)))) (pd_gt (n := 3) T.z.k rfl (pd_gsc (pd_gn (i := 3) (is := [3, 4, 5]) (by decide) sc_exponent_of_row.nd rfl (.inl rfl)) (pd_gsc (pd_gn (i := 4) (is := [3, 4, 5]) (by decide) sc_exponent_of_row.nd rfl (.inr rfl)) (pd_gsc (pd_gn (i := 5) (is := [3, 4, 5]) (by decide) sc_exponent_of_row.nd rfl (.inl rfl)) pd_gsn)))))
    (pds_cons (pd_while (pt_cmpD op_le od_le (pe_vw (pd_var (i := 4) rfl (.inr (.inl rfl)))) (pe_vw (pd_var (i := 5) rfl (.inl rfl)))) (pds_cons (pd_aug (i := 3) sc_exponent_of_row.nd rfl (.inl rfl) (pe_vw (pd_callB (cd_sum T.z.k) (sum_any rfl) rfl T.h_sum boot_sum (pd_consV (pe_nv (pd_lc (own := [("one", 6)]) (is := [6]) rfl sc_exponent_of_row.nd (pd_it T.z.k (pd_tops T.z (pd_var (i := 0) rfl (.inl rfl)))) (blkOk_by (N := N_exponent_of_row) (sc := defScope (topAt 43)) (by decide +kernel)) (fun _ _ _ _ _ => (pd_gn (i := 6) (is := [6]) (by decide) sc_exponent_of_row.nd rfl (.inl rfl))) (fun _ _ _ _ _ => pd_yes) (fun _ _ _ _ _ => (pd_op op_fdivW od_div (pe_vw (pd_op op_mulW od_mul (pe_vw (pd_var (i := 6) rfl (.inl rfl))) (pe_vw (pd_var (i := 2) rfl (.inr (.inl rfl)))))) (pe_vw (pd_var (i := 4) rfl (.inr (.inl rfl)))))) (by decide))) pd_nil))) iop_add od_add)
    (pds_cons (pd_aug (i := 3) sc_exponent_of_row.nd rfl (.inl rfl) (pe_vw (pd_callB (cd_sum T.z.k) (sum_any rfl) rfl T.h_sum boot_sum (pd_consV (pe_nv (pd_lc (own := [("one", 6)]) (is := [6]) rfl sc_exponent_of_row.nd (pd_it T.z.k (pd_bots T.z (pd_var (i := 0) rfl (.inl rfl)))) (blkOk_by (N := N_exponent_of_row) (sc := defScope (topAt 43)) (by decide +kernel)) (fun _ _ _ _ _ => (pd_gn (i := 6) (is := [6]) (by decide) sc_exponent_of_row.nd rfl (.inl rfl))) (fun _ _ _ _ _ => pd_yes) (fun _ _ _ _ _ => (pd_op op_fdivW od_div (pe_vw (pd_op op_mulW od_mul (pe_vw (pd_var (i := 6) rfl (.inl rfl))) (pe_vw (pd_var (i := 2) rfl (.inr (.inl rfl)))))) (pe_vw (pd_var (i := 4) rfl (.inr (.inl rfl)))))) (by decide))) pd_nil))) iop_sub od_sub)
    (pds_one (pd_aug (i := 4) sc_exponent_of_row.nd rfl (.inr rfl) (pe_vw (pd_var (i := 1) rfl (.inl rfl))) iop_mulG od_mul)))) PassesOwn.never)
    (pds_one (pd_ret (pd_var (i := 3) rfl (.inl rfl))))))
end
def sp_exponent_of_row : WL := fun ds Q => ∃ (ts bs : List Int) (p n : Int), ds = [.row ts bs, .int p, .int n] ∧ Small ts bs ∧ 2 ≤ p ∧ p < 2 ^ 20 ∧ 0 ≤ n ∧ n ≤ 10 ^ 30 ∧ Q (.int (expo ts bs p n))
theorem most_bits {ts bs : List Int} (h : Small ts bs) {n : Int} (h0 : 0 ≤ n) (h1 : n ≤ 10 ^ 30) : 0 ≤ maxL (ts ++ bs) * n ∧ maxL (ts ++ bs) * n < 2 ^ 107 := by
  have hm := h.1 _ (maxL_mem h.2.2.2)
  refine ⟨Int.mul_nonneg (by omega) h0, ?_⟩
  have : maxL (ts ++ bs) * n ≤ 60 * n := Int.mul_le_mul_of_nonneg_right hm.2 h0
  omega
theorem pow_step {q p most : Int} {f : Nat} (hp : 2 ≤ p) (hq : 1 ≤ q) (h : most < q * 2 ^ (f + 1)) : most < q * p * 2 ^ f := by
  have e : q * 2 ^ (f + 1) = q * 2 * 2 ^ f := by rw [Int.pow_succ, Int.mul_assoc, Int.mul_comm (2 ^ f) 2]
  rw [e] at h
  have h1 : q * 2 ≤ q * p := Int.mul_le_mul_of_nonneg_left hp (by omega)
  have h2 : q * 2 * 2 ^ f ≤ q * p * 2 ^ f := Int.mul_le_mul_of_nonneg_right h1 (Int.pow_nonneg (by decide))
  omega
def ExpI (ts bs : List Int) (p n : Int) (env : En) : Prop := ∃ (found pw : Int) (f : Nat) (s : Sl), env = [.val (.row ts bs), .val (.int p), .val (.int n), .val (.int found), .val (.int pw), .val (.int (n * maxL (ts ++ bs))), s] ∧ 1 ≤ pw ∧ maxL (ts ++ bs) * n < pw * 2 ^ f ∧
  found + expoF ts bs p n (maxL (ts ++ bs) * n) f pw = expo ts bs p n
def expM (most : Int) (env : En) : Nat := match (env[4]? : Option Sl) with
  | some (Sl.val (D.int pw)) => (most + 1 - pw).toNat
  | _ => 0
theorem imp_exponent_of_row : ∀ ds Q, sp_exponent_of_row ds Q → ds.length = 3 ∧ wFn N_exponent_of_row wb_exponent_of_row ds Q := by
  rintro ds Q ⟨ts, bs, p, n, rfl, h, hp, hp2, h0, h1, q⟩
  refine ⟨rfl, ?_⟩
  obtain ⟨b0, b1⟩ := most_bits h h0 h1
  have hm := h.1 _ (maxL_mem h.2.2.2)
  have c1 : CMulW n (maxL (ts ++ bs)) := mulW_of (a := 100) (b := 10) (by omega) (by omega)
  simp [wb_exponent_of_row, N_exponent_of_row, h.sz, -aOver, -wWhile]
  rw [star_both]
  refine aOver_l _ _ _ ⟨h.2.2.2, ?_⟩
  simp [c1, -aOver, -wWhile]
  refine ⟨ExpI ts bs p n, expM (maxL (ts ++ bs) * n), ⟨0, p, 110, .no, rfl, by omega, ?_, by rw [Int.zero_add]; rfl⟩, ?_⟩
  · have : maxL (ts ++ bs) * n < 1 * 2 ^ 110 := by omega
    have h2 : (1 : Int) * 2 ^ 110 ≤ p * 2 ^ 110 := Int.mul_le_mul_of_nonneg_right (by omega) (by decide)
    omega
  · rintro env ⟨found, pw, f, s, rfl, hpw, hf, he⟩
    by_cases hle : pw ≤ maxL (ts ++ bs) * n
    · simp [-aOver, -lcD, Int.mul_comm n, hle]
      cases f with
      | zero => simp at hf; omega
      | succ f =>
        have hs := pow_step hp hpw hf
        rw [expoF, if_pos hle] at he
        refine sum_divs (n := n) (q := pw) rfl rfl (by simp) (by omega) (by omega) (by omega) (fun m hm => h.1 m (List.mem_append_left _ hm)) h.2.1 ?_
        simp [-aOver, -lcD]
        refine sum_divs (n := n) (q := pw) rfl rfl (by simp) (by omega) (by omega) (by omega) (fun m hm => h.1 m (List.mem_append_right _ hm)) h.2.2.1 ?_
        have c2 : CMulW pw p := mulW_of (a := 110) (b := 20) (by omega) (by omega)
        simp [c2]
        have hgt : pw * 2 ≤ pw * p := Int.mul_le_mul_of_nonneg_left hp (by omega)
        refine ⟨⟨found + floors ts n pw - floors bs n pw, pw * p, f, s, by rw [Int.mul_comm n], by omega, hs, ?_⟩, ?_⟩
        · omega
        · show (maxL (ts ++ bs) * n + 1 - pw * p).toNat < (maxL (ts ++ bs) * n + 1 - pw).toNat
          omega
    · simp [-aOver, -lcD, Int.mul_comm n, hle]
      have : expoF ts bs p n (maxL (ts ++ bs) * n) f pw = 0 := by
        cases f with
        | zero => rfl
        | succ f => rw [expoF, if_neg (by omega)]
      rw [this, Int.add_zero] at he
      rw [he]; exact q
theorem cal_exponent_of_row {P : Program} {w : World} {K : PySem.W.Frag} {mg : Str → Option Value} {base : Heap} {Z : Zc} (T : Txt P w K mg base Z) : Cal P w K mg base Z 1 "exponent_of_row" sp_exponent_of_row :=
  cal_of T.d_exponent_of_row sc_exponent_of_row imp_exponent_of_row fun f cdv A outer s H E hr => b_exponent_of_row T f cdv A outer s H E hr
section
variable {P : Program} {w : World} {K : PySem.W.Frag} {mg : Str → Option Value} {base : Heap} {Z : Zc}
/-! ### _law_exponent -/
def N__law_exponent : List Str := ["_law_tops", "_law_bottoms", "_law_prime", "_law_number", "_law_found", "_law_power", "_law_member"]
theorem sc__law_exponent : FnScope N__law_exponent ["_law_tops", "_law_bottoms", "_law_prime", "_law_number"] (defScope (topAt 84)) := ⟨rfl, rfl, rfl, by decide +kernel, rfl, by decide +kernel, by decide +kernel⟩
def wb__law_exponent : WS := (wSeq (wAsg (wTup (wCons (wC (.int 0)) (wCons (wVar 2) wNil))) (gT 2 (gsC (gN 4) (gsC (gN 5) gsN)))) (wSeq (wWhile (wTest (wOp aLe (wVar 5) (wOp aMul (wCall aMax (wCons (wOp aCat (wCall aList (wCons (wVar 0) wNil)) (wCall aList (wCons (wVar 1) wNil))) wNil)) (wVar 3)))) (wSeq (wSet 4 (wOp aAdd (wVar 4) (wCall aSum (wCons (wLc (wIT (wVar 0)) (gN 6) wYes (wOp aDiv (wOp aMul (wVar 6) (wVar 3)) (wVar 5)) [6]) wNil)))) (wSeq (wSet 4 (wOp aSub (wVar 4) (wCall aSum (wCons (wLc (wIT (wVar 1)) (gN 6) wYes (wOp aDiv (wOp aMul (wVar 6) (wVar 3)) (wVar 5)) [6]) wNil)))) (wSet 5 (wOp aMul (wVar 5) (wVar 2)))))) (wRet (wVar 4))))
theorem b__law_exponent (T : Txt P w K mg base Z) (f : Addr) (cdv : Value) (A : Around) (outer : List Env) (s : Shared) (H : Hp) (E : XK) (hr : Room 0 (A.deeper (envOfC "_law_exponent" (defScope (topAt 84)) s.heap.objs.size f cdv))) :
    PSs (cxOf CX0 P w K mg base N__law_exponent "_law_exponent" (defScope (topAt 84)) f cdv A outer s H E).nox (defBody (topAt 84)) (tS Z wb__law_exponent) :=
  (pds_cons (pd_asg (pd_tup (pd_cons pd_int (pd_cons (pd_var (i := 2) rfl (.inl rfl)) pd_nil))) (pd_gt (n := 2) T.z.k rfl (pd_gsc (pd_gn (i := 4) (is := [4, 5]) (by decide) sc__law_exponent.nd rfl (.inl rfl)) (pd_gsc (pd_gn (i := 5) (is := [4, 5]) (by decide) sc__law_exponent.nd rfl (.inr rfl)) pd_gsn))))
    (pds_cons (pd_while (pt_cmpD op_le od_le (pe_vw (pd_var (i := 5) rfl (.inr (.inl rfl)))) (pe_vw (pd_op op_mulW od_mul (pe_vw (pd_callB (cd_max T.z.k) (max_any rfl (hu_of hr)) rfl T.h_max boot_max (pd_consV (pe_nv (pd_op op_cat od_cat (pe_nv (pd_callTy (cd_list T.z.k) call_list_of rfl T.h_list boot_list (pd_consV (pe_vw (pd_var (i := 0) rfl (.inl rfl))) pd_nil))) (pe_nv (pd_callTy (cd_list T.z.k) call_list_of rfl T.h_list boot_list (pd_consV (pe_vw (pd_var (i := 1) rfl (.inl rfl))) pd_nil))))) pd_nil))) (pe_vw (pd_var (i := 3) rfl (.inr (.inl rfl))))))) (pds_cons (pd_set (i := 4) sc__law_exponent.nd rfl (.inl rfl) (pd_op op_add od_add (pe_vw (pd_var (i := 4) rfl (.inl rfl))) (pe_vw (pd_callB (cd_sum T.z.k) (sum_any rfl) rfl T.h_sum boot_sum (pd_consV (pe_nv (pd_lc (own := [("_law_member", 6)]) (is := [6]) rfl sc__law_exponent.nd (pd_it T.z.k (pd_var (i := 0) rfl (.inl rfl))) (blkOk_by (N := N__law_exponent) (sc := defScope (topAt 84)) (by decide +kernel)) (fun _ _ _ _ _ => (pd_gn (i := 6) (is := [6]) (by decide) sc__law_exponent.nd rfl (.inl rfl))) (fun _ _ _ _ _ => pd_yes) (fun _ _ _ _ _ => (pd_op op_fdivW od_div (pe_vw (pd_op op_mulW od_mul (pe_vw (pd_var (i := 6) rfl (.inl rfl))) (pe_vw (pd_var (i := 3) rfl (.inr (.inl rfl)))))) (pe_vw (pd_var (i := 5) rfl (.inr (.inl rfl)))))) (by decide))) pd_nil)))))
    (pds_cons (pd_set (i := 4) sc__law_exponent.nd rfl (.inl rfl) (pd_op op_sub od_sub (pe_vw (pd_var (i := 4) rfl (.inl rfl))) (pe_vw (pd_callB (cd_sum T.z.k) (sum_any rfl) rfl T.h_sum boot_sum (pd_consV (pe_nv (pd_lc (own := [("_law_member", 6)]) (is := [6]) rfl sc__law_exponent.nd (pd_it T.z.k (pd_var (i := 1) rfl (.inl rfl))) (blkOk_by (N := N__law_exponent) (sc := defScope (topAt 84)) (by decide +kernel)) (fun _ _ _ _ _ => (pd_gn (i := 6) (is := [6]) (by decide) sc__law_exponent.nd rfl (.inl rfl))) (fun _ _ _ _ _ => pd_yes) (fun _ _ _ _ _ => (pd_op op_fdivW od_div (pe_vw (pd_op op_mulW od_mul (pe_vw (pd_var (i := 6) rfl (.inl rfl))) (pe_vw (pd_var (i := 3) rfl (.inr (.inl rfl)))))) (pe_vw (pd_var (i := 5) rfl (.inr (.inl rfl)))))) (by decide))) pd_nil)))))
    (pds_one (pd_set (i := 5) sc__law_exponent.nd rfl (.inr rfl) (pd_op op_mulW od_mul (pe_vw (pd_var (i := 5) rfl (.inr (.inl rfl)))) (pe_vw (pd_var (i := 2) rfl (.inl rfl)))))))) PassesOwn.never)
    (pds_one (pd_ret (pd_var (i := 4) rfl (.inl rfl))))))
end
def sp__law_exponent : WL := fun ds Q => ∃ (ts bs : List Int) (p n : Int), ds = [.tup (ts.map D.int), .tup (bs.map D.int), .int p, .int n] ∧ Small ts bs ∧ 2 ≤ p ∧ p < 2 ^ 20 ∧ 0 ≤ n ∧ n ≤ 10 ^ 30 ∧ Q (.int (expo ts bs p n))
theorem sum_divsL {n q : Int} {env : En} {ms : List Int} {K : D → Prop} (h2 : env[3]? = some (.val (.int n))) (h4 : env[5]? = some (.val (.int q))) (h6 : 6 < env.length) (hn : n.natAbs < 2 ^ 100) (hq : 0 < q) (hq2 : q.natAbs < 2 ^ 110)
    (hm : ∀ m ∈ ms, 1 ≤ m ∧ m ≤ 60) (hl : ms.length ≤ 8) (k : K (.int (floors ms n q))) :
    lcD (gN 6) wYes (wOp aDiv (wOp aMul (wVar 6) (wVar 3)) (wVar 5)) env (fun acc => aSum [.lst acc] K) (ms.map D.int) [] := by
  refine lc_map D.int (fun m => .int (m * n / q)) ms (fun m hm' K1 k1 => ?_) (by have := size_big; omega) ?_
  · obtain ⟨a, b⟩ := hm m hm'
    have c1 : CMulW m n := mulW_of (a := 6) (b := 100) (by omega) hn
    have c2 : CDivW (m * n) q := divW_of hq hq2
    have e2 : (env.set 6 (.val (.int m)))[3]? = some (.val (.int n)) := by rw [List.getElem?_set_ne (by decide)]; exact h2
    have e4 : (env.set 6 (.val (.int m)))[5]? = some (.val (.int q)) := by rw [List.getElem?_set_ne (by decide)]; exact h4
    have e6 : (env.set 6 (.val (.int m)))[6]? = some (.val (.int m)) := List.getElem?_set_self h6
    show wOp aDiv (wOp aMul (wVar 6) (wVar 3)) (wVar 5) (env.set 6 (.val (.int m))) K1
    exact ⟨_, e6, _, e2, c1, _, e4, c2, k1⟩
  · have e : ms.map (fun m => D.int (m * n / q)) = (ms.map fun m => m * n / q).map D.int := by rw [List.map_map]; rfl
    rw [e]
    exact aOver_l _ _ _ k
def ExpL (ts bs : List Int) (p n : Int) (env : En) : Prop := ∃ (found pw : Int) (f : Nat) (s : Sl), env = [.val (.tup (ts.map D.int)), .val (.tup (bs.map D.int)), .val (.int p), .val (.int n), .val (.int found), .val (.int pw), s] ∧ 1 ≤ pw ∧ maxL (ts ++ bs) * n < pw * 2 ^ f ∧
  found + expoF ts bs p n (maxL (ts ++ bs) * n) f pw = expo ts bs p n
def expML (most : Int) (env : En) : Nat := match (env[5]? : Option Sl) with
  | some (Sl.val (D.int pw)) => (most + 1 - pw).toNat
  | _ => 0
theorem imp__law_exponent : ∀ ds Q, sp__law_exponent ds Q → ds.length = 4 ∧ wFn N__law_exponent wb__law_exponent ds Q := by
  rintro ds Q ⟨ts, bs, p, n, rfl, h, hp, hp2, h0, h1, q⟩
  refine ⟨rfl, ?_⟩
  obtain ⟨b0, b1⟩ := most_bits h h0 h1
  have hm := h.1 _ (maxL_mem h.2.2.2)
  have c1 : CMulW (maxL (ts ++ bs)) n := mulW_of (a := 10) (b := 100) (by omega) (by omega)
  simp [wb__law_exponent, N__law_exponent, -aOver, -wWhile]
  refine ⟨ExpL ts bs p n, expML (maxL (ts ++ bs) * n), ⟨0, p, 110, .no, rfl, by omega, ?_, by rw [Int.zero_add]; rfl⟩, ?_⟩
  · have : maxL (ts ++ bs) * n < 1 * 2 ^ 110 := by omega
    have h2 : (1 : Int) * 2 ^ 110 ≤ p * 2 ^ 110 := Int.mul_le_mul_of_nonneg_right (by omega) (by decide)
    omega
  · rintro env ⟨found, pw, f, s, rfl, hpw, hf, he⟩
    simp [-aOver, -lcD, h.sz]
    rw [star_both]
    refine aOver_l _ _ _ ⟨h.2.2.2, ?_⟩
    by_cases hle : pw ≤ maxL (ts ++ bs) * n
    · simp [-aOver, -lcD, hle, c1]
      cases f with
      | zero => simp at hf; omega
      | succ f =>
        have hs := pow_step hp hpw hf
        rw [expoF, if_pos hle] at he
        refine sum_divsL (n := n) (q := pw) rfl rfl (by simp) (by omega) (by omega) (by omega) (fun m hm => h.1 m (List.mem_append_left _ hm)) h.2.1 ?_
        simp [-aOver, -lcD]
        refine sum_divsL (n := n) (q := pw) rfl rfl (by simp) (by omega) (by omega) (by omega) (fun m hm => h.1 m (List.mem_append_right _ hm)) h.2.2.1 ?_
        have c2 : CMulW pw p := mulW_of (a := 110) (b := 20) (by omega) (by omega)
        simp [c2]
        have hgt : pw * 2 ≤ pw * p := Int.mul_le_mul_of_nonneg_left hp (by omega)
        refine ⟨⟨found + floors ts n pw - floors bs n pw, pw * p, f, s, rfl, by omega, hs, ?_⟩, ?_⟩
        · omega
        · show (maxL (ts ++ bs) * n + 1 - pw * p).toNat < (maxL (ts ++ bs) * n + 1 - pw).toNat
          omega
    · simp [-aOver, -lcD, hle, c1]
      have : expoF ts bs p n (maxL (ts ++ bs) * n) f pw = 0 := by
        cases f with
        | zero => rfl
        | succ f => rw [expoF, if_neg (by omega)]
      rw [this, Int.add_zero] at he
      rw [he]; exact q
theorem cal__law_exponent {P : Program} {w : World} {K : PySem.W.Frag} {mg : Str → Option Value} {base : Heap} {Z : Zc} (T : Txt P w K mg base Z) : Cal P w K mg base Z 1 "_law_exponent" sp__law_exponent :=
  cal_of T.d__law_exponent sc__law_exponent imp__law_exponent fun f cdv A outer s H E hr => b__law_exponent T f cdv A outer s H E hr
end DL

namespace DL
open PySem PySem.Spec PyProof.Rows L2
/-! ### primes -/
theorem ipow2 {a b : Nat} (h : a ≤ b) : (2 : Int) ^ a ≤ 2 ^ b := by
  obtain ⟨c, rfl⟩ := Nat.exists_eq_add_of_le h
  rw [Int.pow_add]
  have h1 : (1 : Int) ≤ 2 ^ c := (Int.pow_pos (by decide) : (0 : Int) < 2 ^ c)
  have h2 : (2 : Int) ^ a * 1 ≤ 2 ^ a * 2 ^ c := Int.mul_le_mul_of_nonneg_left h1 (Int.pow_nonneg (by decide))
  omega
def prB (n : Int) : Bool := decide (2 ≤ n) && (rngI 2 (n - 2).toNat).all fun d => decide (n % d ≠ 0)
theorem prB_iff {n : Int} : prB n = true ↔ 2 ≤ n ∧ ∀ d, 2 ≤ d → d < n → n % d ≠ 0 := by
  unfold prB
  rw [Bool.and_eq_true, decide_eq_true_eq, List.all_eq_true]
  constructor
  · rintro ⟨h, k⟩
    exact ⟨h, fun d h1 h2 => of_decide_eq_true (k d (mem_rngI.mpr (by omega)))⟩
  · rintro ⟨h, k⟩
    exact ⟨h, fun d hd => by
      have := mem_rngI.mp hd
      exact decide_eq_true (k d (by omega) (by omega))⟩
/-- a number that has no divisor below its root is a prime -/
theorem prB_root {n p : Int} (hn : 2 ≤ n) (hp : 2 ≤ p) (h : n < p * p) (k : ∀ d, 2 ≤ d → d < p → n % d ≠ 0) : prB n = true := by
  refine prB_iff.mpr ⟨hn, fun d h1 h2 e => ?_⟩
  by_cases hd : d < p
  · exact k d h1 hd e
  · have e1 : n = d * (n / d) := by have := Int.mul_ediv_add_emod n d; omega
    have hq : 2 ≤ n / d := by
      by_cases hq : n / d ≤ 1
      · have : d * (n / d) ≤ d * 1 := Int.mul_le_mul_of_nonneg_left hq (by omega)
        omega
      · omega
    have hq2 : n / d < p := by
      by_cases hq2 : n / d < p
      · exact hq2
      · have : p * p ≤ d * (n / d) := Int.mul_le_mul (by omega) (by omega) (by omega) (by omega)
        omega
    refine k (n / d) hq hq2 ?_
    rw [e1]
    exact Int.emod_eq_zero_of_dvd ⟨d, by rw [← e1, Int.mul_comm]; exact e1⟩
/-! ### dicts of ints, by their values -/
def valSum (kvs : List (Int × Int)) : Int := (kvs.map (·.2)).sum
theorem getI_none {k : Int} : ∀ {kvs : List (Int × Int)}, (kvs.any fun p => decide (p.1 = k)) = false → getI kvs k = none
  | [], _ => rfl
  | (a, b) :: r, h => by
    rw [List.any_cons, Bool.or_eq_false_iff] at h
    unfold getI
    rw [List.find?_cons, h.1]
    exact getI_none h.2
theorem put_map_sum {k v : Int} : ∀ {kvs : List (Int × Int)}, (kvs.map (·.1)).Nodup → (kvs.any fun p => decide (p.1 = k)) = true →
    ((kvs.map fun p => if p.1 = k then (p.1, v) else p).map (·.2)).sum = (kvs.map (·.2)).sum - (getI kvs k).getD 0 + v
  | [], _, h => by cases h
  | (a, b) :: r, nd, h => by
    rw [List.map_cons, List.nodup_cons] at nd
    by_cases e : a = k
    · have hr : r.map (fun p => if p.1 = k then (p.1, v) else p) = r := by
        conv => rhs; rw [← List.map_id r]
        apply List.map_congr_left
        intro p hp
        rw [if_neg]
        · rfl
        · intro z
          exact nd.1 (List.mem_map.mpr ⟨p, hp, by rw [z, e]⟩)
      simp only [List.map_cons, e, if_true, hr, List.sum_cons, getI, List.find?_cons, decide_true, Option.map_some, Option.getD_some]
      omega
    · have h2 : (r.any fun p => decide (p.1 = k)) = true := by
        rw [List.any_cons] at h
        simpa [e] using h
      have ih := put_map_sum (v := v) nd.2 h2
      have eg : getI ((a, b) :: r) k = getI r k := by
        unfold getI
        rw [List.find?_cons]
        simp [e]
      rw [eg]
      simp only [List.map_cons, e, if_false, List.sum_cons]
      rw [ih]
      omega
theorem put_sum {kvs : List (Int × Int)} {k v : Int} (nd : (kvs.map (·.1)).Nodup) : valSum (putI kvs k v) = valSum kvs - (getI kvs k).getD 0 + v := by
  unfold valSum putI
  by_cases h : (kvs.any fun p => decide (p.1 = k)) = true
  · rw [if_pos h]; exact put_map_sum nd h
  · rw [if_neg h, getI_none (Bool.eq_false_iff.mpr h), List.map_append, List.sum_append]
    simp
theorem put_keys {kvs : List (Int × Int)} {k v : Int} (nd : (kvs.map (·.1)).Nodup) : ((putI kvs k v).map (·.1)).Nodup ∧ (putI kvs k v).length ≤ kvs.length + 1 := by
  unfold putI
  by_cases h : (kvs.any fun p => decide (p.1 = k)) = true
  · rw [if_pos h]
    refine ⟨?_, by rw [List.length_map]; omega⟩
    have e : (kvs.map fun p => if p.1 = k then (p.1, v) else p).map (·.1) = kvs.map (·.1) := by
      rw [List.map_map]
      apply List.map_congr_left
      intro p _
      simp only [Function.comp]
      split <;> rfl
    rw [e]; exact nd
  · rw [if_neg h]
    refine ⟨?_, by simp⟩
    rw [List.map_append, List.nodup_append]
    refine ⟨nd, by simp, ?_⟩
    intro a ha b hb e
    simp at hb
    subst hb
    obtain ⟨p, hp, z⟩ := List.mem_map.mp ha
    apply h
    exact List.any_eq_true.mpr ⟨p, hp, decide_eq_true (by rw [z, e])⟩
section
variable {P : Program} {w : World} {K : PySem.W.Frag} {mg : Str → Option Value} {base : Heap} {Z : Zc}
/-! ### factors_in -/
def N_factors_in : List Str := ["number", "found", "left", "prime"]
theorem sc_factors_in : FnScope N_factors_in ["number"] (defScope (topAt 15)) := ⟨rfl, rfl, rfl, by decide +kernel, rfl, by decide +kernel, by decide +kernel⟩
def wb_factors_in : WS := (wSeq (wPar3 1 2 3 .new .frz .frz (wC (.dic [])) (wVar 0) (wC (.int 2))) (wSeq (wWhile (wTest (wOp aLe (wOp aMul (wVar 3) (wVar 3)) (wVar 2))) (wSeq (wWhile (wTest (wOp (aEq false) (wOp aMod (wVar 2) (wVar 3)) (wC (.int 0)))) (wSeq (wPutD 1 (wOp aAdd (wGetO 1 (wVar 3) (wC (.int 0))) (wC (.int 1))) (wVar 3)) (wAug 2 aDiv (wVar 3)))) (wAug 3 aAdd (wIfE (wTest (wOp (aEq false) (wVar 3) (wC (.int 2)))) (wC (.int 1)) (wC (.int 2)))))) (wSeq (wIf (wTest (wOp aGt (wVar 2) (wC (.int 1)))) (wPutD 1 (wOp aAdd (wGetO 1 (wVar 2) (wC (.int 0))) (wC (.int 1))) (wVar 2)) wNext) (wRetOwn 1))))
theorem b_factors_in (T : Txt P w K mg base Z) (f : Addr) (cdv : Value) (A : Around) (outer : List Env) (s : Shared) (H : Hp) (E : XK) (hr : Room 0 (A.deeper (envOfC "factors_in" (defScope (topAt 15)) s.heap.objs.size f cdv))) :
    PSs (cxOf CX0 P w K mg base N_factors_in "factors_in" (defScope (topAt 15)) f cdv A outer s H E).nox (defBody (topAt 15)) (tS Z wb_factors_in) :=
  (pds_cons (pd_par3 (i := 1) (j := 2) (l := 3) (k1 := .new) (k2 := .frz) (k3 := .frz) (by decide) (by decide) (by decide) rfl sc_factors_in.nd rfl rfl rfl (by decide) (by decide) (by decide) rfl rfl rfl pd_dnew (pd_var (i := 0) rfl (.inl rfl)) pd_int (by rfl))
    (pds_cons (pd_while (pt_cmpD op_le od_le (pe_vw (pd_op op_mulW od_mul (pe_vw (pd_var (i := 3) rfl (.inl rfl))) (pe_vw (pd_var (i := 3) rfl (.inl rfl))))) (pe_vw (pd_var (i := 2) rfl (.inl rfl)))) (pds_cons (pd_while (pt_cmpD (op_eqD hr.units) (od_eq T.z.k) (pe_vw (pd_op op_mod od_mod (pe_vw (pd_var (i := 2) rfl (.inl rfl))) (pe_vw (pd_var (i := 3) rfl (.inl rfl))))) (pe_vw pd_int)) (pds_cons (pd_putD (j := 1) (hu_of hr) rfl (.inl rfl) (pe_vw (pd_var (i := 3) rfl (.inl rfl))) (pd_op op_add od_add (pe_vw (pd_getO (hu_of hr) rfl (.inl rfl) (pe_vw (pd_var (i := 3) rfl (.inl rfl))) (pe_vw pd_int) ⟨rfl, rfl, rfl, rfl⟩)) (pe_vw pd_int)))
    (pds_one (pd_aug (i := 2) sc_factors_in.nd rfl (.inl rfl) (pe_vw (pd_var (i := 3) rfl (.inl rfl))) iop_fdivW od_div))) PassesOwn.never)
    (pds_one (pd_aug (i := 3) sc_factors_in.nd rfl (.inl rfl) (pe_vw (pd_ifE (pt_cmpD (op_eqD hr.units) (od_eq T.z.k) (pe_vw (pd_var (i := 3) rfl (.inl rfl))) (pe_vw pd_int)) pd_int pd_int)) iop_add od_add))) PassesOwn.never)
    (pds_cons (pd_if (pt_cmpD op_gt od_gt (pe_vw (pd_var (i := 2) rfl (.inl rfl))) (pe_vw pd_int)) (pds_one (pd_putD (j := 1) (hu_of hr) rfl (.inl rfl) (pe_vw (pd_var (i := 2) rfl (.inl rfl))) (pd_op op_add od_add (pe_vw (pd_getO (hu_of hr) rfl (.inl rfl) (pe_vw (pd_var (i := 2) rfl (.inl rfl))) (pe_vw pd_int) ⟨rfl, rfl, rfl, rfl⟩)) (pe_vw pd_int)))) pds_nil)
    (pds_one (pd_retOwn (i := 1) rfl (.inl rfl))))))
end
def sp_factors_in : WL := fun ds Q => ∃ n : Int, ds = [.int n] ∧ 2 ≤ n ∧ n < 2 ^ 20 ∧ ∀ kvs, (kvs.map (·.2) = [1] ↔ prB n = true) → Q (.dic kvs)
/-- what is known of the dict and of what is left -/
structure FacI (n : Int) (kvs : List (Int × Int)) (left p : Int) : Prop where
  l1 : 1 ≤ left
  ln : left * 2 ^ kvs.length ≤ n
  p2 : 2 ≤ p
  pn : p ≤ n + 2
  odd : p = 2 ∨ p % 2 = 1
  nd : (kvs.map (·.1)).Nodup
  no : ∀ d, 2 ≤ d → d < p → left % d ≠ 0
def FacJ (n : Int) (kvs : List (Int × Int)) (left : Int) : Prop := (kvs = [] ∧ left = n) ∨ (prB n = false ∧ 1 ≤ valSum kvs ∧ (2 ≤ valSum kvs ∨ 1 < left))
def FacO (n : Int) (env : En) : Prop := ∃ kvs left p, env = [.val (.int n), .own (.dic kvs), .val (.int left), .val (.int p)] ∧ FacI n kvs left p ∧ FacJ n kvs left
def FacN (n p : Int) (env : En) : Prop := ∃ kvs left, env = [.val (.int n), .own (.dic kvs), .val (.int left), .val (.int p)] ∧ FacI n kvs left p ∧ FacJ n kvs left ∧ (kvs = [] → p * p ≤ n) ∧ p ≤ n
def FacMO (n : Int) (env : En) : Nat := match (env[3]? : Option Sl) with
  | some (Sl.val (D.int p)) => (n + 3 - p).toNat
  | _ => 0
def FacMI (env : En) : Nat := match (env[2]? : Option Sl) with
  | some (Sl.val (D.int l)) => l.toNat
  | _ => 0
theorem dvd_keep {left p d : Int} (hp : 2 ≤ p) (h : left % p = 0) (hd : (left / p) % d = 0) : left % d = 0 := by
  have e1 : left = p * (left / p) := by have := Int.mul_ediv_add_emod left p; omega
  rw [e1]
  exact Int.emod_eq_zero_of_dvd (Int.dvd_mul_of_dvd_right (Int.dvd_of_emod_eq_zero hd))
theorem composite {n p : Int} (hp : 2 ≤ p) (hpp : p * p ≤ n) (h : n % p = 0) : prB n = false := by
  have hlt : p < n := by
    have : p * 2 ≤ p * p := Int.mul_le_mul_of_nonneg_left hp (by omega)
    omega
  cases e : prB n with
  | false => rfl
  | true => exact absurd h ((prB_iff.mp e).2 p hp hlt)
theorem facLen {n left : Int} {k : Nat} (hn : n < 2 ^ 20) (h1 : 1 ≤ left) (h : left * 2 ^ k ≤ n) : k < sizeLine := by
  have hk : k < 20 := by
    by_cases hk : k < 20
    · exact hk
    · have h2 : (2 : Int) ^ 20 ≤ 2 ^ k := ipow2 (by omega)
      have h3 : 1 * (2 : Int) ^ k ≤ left * 2 ^ k := Int.mul_le_mul_of_nonneg_right h1 (Int.pow_nonneg (by decide))
      omega
  have := size_big
  omega
theorem imp_factors_in : ∀ ds Q, sp_factors_in ds Q → ds.length = 1 ∧ wFn N_factors_in wb_factors_in ds Q := by
  rintro ds Q ⟨n, rfl, h2, hn, q⟩
  refine ⟨rfl, ?_⟩
  simp [wb_factors_in, N_factors_in, -wWhile]
  refine ⟨FacO n, FacMO n, ⟨[], n, 2, rfl, ⟨by omega, by simp, by omega, by omega, .inl rfl, by simp, fun d h1 h2 => by omega⟩, .inl ⟨rfl, rfl⟩⟩, ?_⟩
  rintro env ⟨kvs, left, p, rfl, I, J⟩
  have hl1 := I.l1
  have hp2 := I.p2
  have hpn := I.pn
  have c1 : CMulW p p := mulW_of (a := 22) (b := 22) (by omega) (by omega)
  have hpow : (1 : Int) ≤ 2 ^ kvs.length := (Int.pow_pos (by decide) : (0 : Int) < 2 ^ kvs.length)
  have hln : left ≤ n := by
    have := Int.mul_le_mul_of_nonneg_left hpow (show 0 ≤ left by omega)
    have := I.ln
    omega
  by_cases hle : p * p ≤ left
  · simp [c1, hle, -wWhile]
    have hpl : p ≤ left := by
      have : p * 2 ≤ p * p := Int.mul_le_mul_of_nonneg_left hp2 (by omega)
      omega
    refine ⟨FacN n p, FacMI, ⟨kvs, left, rfl, I, J, fun _ => by omega, by omega⟩, ?_⟩
    rintro env ⟨kvs, left, rfl, I, J, hk, hpn'⟩
    have hl1 := I.l1
    have hz : kvs.length < sizeLine := facLen hn I.l1 I.ln
    by_cases hm : left % p = 0
    · have c2 : CDivW left p := divW_of (b := 22) (by omega) (by omega)
      simp [hm, c2, hz, -wWhile, show (0 : Int) < p by omega]
      have e1 : left = p * (left / p) := by have := Int.mul_ediv_add_emod left p; omega
      have hq1 : 1 ≤ left / p := by
        by_cases hq : left / p ≤ 0
        · have : p * (left / p) ≤ p * 0 := Int.mul_le_mul_of_nonneg_left hq (by omega)
          omega
        · omega
      have hq2 : left / p < left := by
        have : 2 * (left / p) ≤ p * (left / p) := Int.mul_le_mul_of_nonneg_right hp2 (by omega)
        omega
      obtain ⟨k1, k2⟩ := put_keys (v := (getI kvs p).getD 0 + 1) (k := p) I.nd
      have ks := put_sum (v := (getI kvs p).getD 0 + 1) (k := p) I.nd
      refine ⟨⟨_, _, rfl, ⟨hq1, ?_, hp2, I.pn, I.odd, k1, fun d h1 h2 e => I.no d h1 h2 (dvd_keep hp2 hm e)⟩, .inr ?_, fun e => ?_, hpn'⟩, ?_⟩
      · have h1 : (2 : Int) ^ (putI kvs p ((getI kvs p).getD 0 + 1)).length ≤ 2 ^ (kvs.length + 1) := ipow2 k2
        have h2 : left / p * 2 ^ (putI kvs p ((getI kvs p).getD 0 + 1)).length ≤ left / p * 2 ^ (kvs.length + 1) := Int.mul_le_mul_of_nonneg_left h1 (by omega)
        have h3 : left / p * 2 ^ (kvs.length + 1) = 2 * (left / p) * 2 ^ kvs.length := by rw [Int.pow_succ, Int.mul_comm (2 ^ kvs.length) 2, ← Int.mul_assoc, Int.mul_comm (left / p) 2]
        have h4 : 2 * (left / p) ≤ p * (left / p) := Int.mul_le_mul_of_nonneg_right hp2 (by omega)
        have h5 : 2 * (left / p) * 2 ^ kvs.length ≤ left * 2 ^ kvs.length := Int.mul_le_mul_of_nonneg_right (by omega) (Int.pow_nonneg (by decide))
        have := I.ln
        omega
      · rcases J with ⟨e, e2⟩ | ⟨j1, j2, j3⟩
        · subst e
          subst e2
          have hpp := hk rfl
          have hlt : p ≤ left / p := Int.le_ediv_of_mul_le (by omega) hpp
          refine ⟨composite hp2 hpp hm, ?_, .inr (by omega)⟩
          rw [ks]; simp [valSum, getI]
        · refine ⟨j1, by omega, .inl (by omega)⟩
      · exfalso
        have := congrArg valSum e
        have hv : 0 ≤ valSum kvs := by
          rcases J with ⟨e, _⟩ | ⟨_, j2, _⟩
          · rw [e]; decide
          · omega
        rw [ks] at this
        simp [valSum] at this hv
        omega
      · show (left / p).toNat < left.toNat
        omega
    · simp [hm, -wWhile, show (0 : Int) < p by omega]
      have no2 : ∀ d, 2 ≤ d → d < p + 1 → left % d ≠ 0 := fun d h1 h2 => by
        by_cases e : d = p
        · rw [e]; exact hm
        · exact I.no d h1 (by omega)
      by_cases e2 : p = 2
      · rw [if_pos e2]
        refine ⟨⟨_, _, _, rfl, ⟨hl1, I.ln, by omega, by omega, .inr (by omega), I.nd, no2⟩, J⟩, ?_⟩
        show (n + 3 - (p + 1)).toNat < (n + 3 - p).toNat
        omega
      · rw [if_neg e2]
        refine ⟨⟨_, _, _, rfl, ⟨hl1, I.ln, by omega, by omega, .inr (by have := I.odd; omega), I.nd, fun d h1 h2 => ?_⟩, J⟩, ?_⟩
        · by_cases e : d = p + 1
          · intro z
            have o := I.odd
            have hd : (2 : Int) ∣ d := Int.dvd_of_emod_eq_zero (by omega)
            have hl : (2 : Int) ∣ left := Int.dvd_trans hd (Int.dvd_of_emod_eq_zero z)
            exact I.no 2 (by omega) (by omega) (Int.emod_eq_zero_of_dvd hl)
          · exact no2 d h1 (by omega)
        · show (n + 3 - (p + 2)).toNat < (n + 3 - p).toNat
          omega
  · simp [c1, hle, -wWhile]
    have hz : kvs.length < sizeLine := facLen hn I.l1 I.ln
    rcases J with ⟨e, e2⟩ | ⟨j1, j2, j3⟩
    · subst e
      subst e2
      refine .inr ⟨by omega, hz, q _ ⟨fun _ => prB_root h2 hp2 (by omega) I.no, fun _ => rfl⟩⟩
    · by_cases h1 : left ≤ 1
      · refine .inl ⟨h1, q _ ⟨fun e => ?_, fun e => by rw [j1] at e; cases e⟩⟩
        have : valSum kvs = 1 := by unfold valSum; rw [e]; rfl
        omega
      · refine .inr ⟨by omega, hz, q _ ⟨fun e => ?_, fun e => by rw [j1] at e; cases e⟩⟩
        have ks := put_sum (v := (getI kvs left).getD 0 + 1) (k := left) I.nd
        have : valSum (putI kvs left ((getI kvs left).getD 0 + 1)) = 1 := by unfold valSum; rw [e]; rfl
        omega
theorem cal_factors_in {P : Program} {w : World} {K : PySem.W.Frag} {mg : Str → Option Value} {base : Heap} {Z : Zc} (T : Txt P w K mg base Z) : Cal P w K mg base Z 1 "factors_in" sp_factors_in :=
  cal_of T.d_factors_in sc_factors_in imp_factors_in fun f cdv A outer s H E hr => b_factors_in T f cdv A outer s H E hr
section
variable {P : Program} {w : World} {K : PySem.W.Frag} {mg : Str → Option Value} {base : Heap} {Z : Zc}
/-! ### is_prime_in -/
def N_is_prime_in : List Str := ["number"]
theorem sc_is_prime_in : FnScope N_is_prime_in ["number"] (defScope (topAt 16)) := ⟨rfl, rfl, rfl, by decide +kernel, rfl, by decide +kernel, by decide +kernel⟩
def wb_is_prime_in : WS := (wRet (wOp (aEq false) (wListVals (wCall sp_factors_in (wCons (wVar 0) wNil))) (wLst (wCons (wC (.int 1)) wNil))))
theorem b_is_prime_in (T : Txt P w K mg base Z) (f : Addr) (cdv : Value) (A : Around) (outer : List Env) (s : Shared) (H : Hp) (E : XK) (hr : Room 1 (A.deeper (envOfC "is_prime_in" (defScope (topAt 16)) s.heap.objs.size f cdv))) :
    PSs (cxOf CX0 P w K mg base N_is_prime_in "is_prime_in" (defScope (topAt 16)) f cdv A outer s H E).nox (defBody (topAt 16)) (tS Z wb_is_prime_in) :=
  (pds_one (pd_ret (pd_cmp (op_eqD hr.units) (od_eq T.z.k) (pe_nv (pd_listVals rfl rfl T.h_list (pd_call (cal_factors_in T) hr (by decide) rfl (pd_cons (pd_var (i := 0) rfl (.inl rfl)) pd_nil)))) (pe_nv (pd_lst (pd_cons pd_int pd_nil))))))
end
def sp_is_prime_in : WL := fun ds Q => ∃ n : Int, ds = [.int n] ∧ 2 ≤ n ∧ n < 2 ^ 20 ∧ Q (.bl (prB n))
theorem imp_is_prime_in : ∀ ds Q, sp_is_prime_in ds Q → ds.length = 1 ∧ wFn N_is_prime_in wb_is_prime_in ds Q := by
  rintro ds Q ⟨n, rfl, h2, hn, q⟩
  refine ⟨rfl, ?_⟩
  simp [wb_is_prime_in, N_is_prime_in, -aEq]
  refine ⟨n, rfl, h2, hn, fun kvs hk => ⟨kvs, rfl, ?_⟩⟩
  have e : kvs.map (fun p => D.int p.2) = (kvs.map (·.2)).map D.int := by rw [List.map_map]; rfl
  have e1 : [D.int 1] = [(1 : Int)].map D.int := rfl
  rw [e, e1]
  refine ⟨cmp_lstI _, cmp_lstI _, ?_⟩
  rw [if_neg (by decide), eqv_lstI]
  have : decide (kvs.map (·.2) = [1]) = prB n := by
    rw [Bool.eq_iff_iff, decide_eq_true_eq]; exact hk
  rw [this]; exact q
theorem cal_is_prime_in {P : Program} {w : World} {K : PySem.W.Frag} {mg : Str → Option Value} {base : Heap} {Z : Zc} (T : Txt P w K mg base Z) : Cal P w K mg base Z 2 "is_prime_in" sp_is_prime_in :=
  cal_of T.d_is_prime_in sc_is_prime_in imp_is_prime_in fun f cdv A outer s H E hr => b_is_prime_in T f cdv A outer s H E hr
section
variable {P : Program} {w : World} {K : PySem.W.Frag} {mg : Str → Option Value} {base : Heap} {Z : Zc}
/-! ### is_prime -/
def N_is_prime : List Str := ["value"]
theorem sc_is_prime : FnScope N_is_prime ["value"] (defScope (topAt 18)) := ⟨rfl, rfl, rfl, by decide +kernel, rfl, by decide +kernel, by decide +kernel⟩
def wb_is_prime : WS := (wRet (wAndV (wCall sp_is_within (wCons (wVar 0) (wCons (wC (.int 2)) (wCons (wC (.int 1000000)) wNil)))) (wCall sp_is_prime_in (wCons (wVar 0) wNil))))
theorem b_is_prime (T : Txt P w K mg base Z) (f : Addr) (cdv : Value) (A : Around) (outer : List Env) (s : Shared) (H : Hp) (E : XK) (hr : Room 2 (A.deeper (envOfC "is_prime" (defScope (topAt 18)) s.heap.objs.size f cdv))) :
    PSs (cxOf CX0 P w K mg base N_is_prime "is_prime" (defScope (topAt 18)) f cdv A outer s H E).nox (defBody (topAt 18)) (tS Z wb_is_prime) :=
  (pds_one (pd_ret (pd_and (pd_call (cal_is_within T) hr (by decide) rfl (pd_cons (pd_var (i := 0) rfl (.inl rfl)) (pd_cons pd_int (pd_cons (pd_globI T.c_MAX_PRIME rfl) pd_nil)))) (pd_one (pd_call (cal_is_prime_in T) hr (by decide) rfl (pd_cons (pd_var (i := 0) rfl (.inl rfl)) pd_nil))))))
end
def sp_is_prime : WL := fun ds Q => ∃ n : Int, ds = [.int n] ∧ 2 ≤ n ∧ n ≤ 10 ^ 6 ∧ Q (.bl (prB n))
theorem imp_is_prime : ∀ ds Q, sp_is_prime ds Q → ds.length = 1 ∧ wFn N_is_prime wb_is_prime ds Q := by
  rintro ds Q ⟨n, rfl, h2, hn, q⟩
  refine ⟨rfl, ?_⟩
  have hn' : n ≤ 1000000 := hn
  simp [wb_is_prime, N_is_prime, h2, hn']
  exact ⟨n, rfl, h2, by omega, q⟩
theorem cal_is_prime {P : Program} {w : World} {K : PySem.W.Frag} {mg : Str → Option Value} {base : Heap} {Z : Zc} (T : Txt P w K mg base Z) : Cal P w K mg base Z 3 "is_prime" sp_is_prime :=
  cal_of T.d_is_prime sc_is_prime imp_is_prime fun f cdv A outer s H E hr => b_is_prime T f cdv A outer s H E hr
section
variable {P : Program} {w : World} {K : PySem.W.Frag} {mg : Str → Option Value} {base : Heap} {Z : Zc}
/-! ### require_prime -/
def N_require_prime : List Str := ["value"]
theorem sc_require_prime : FnScope N_require_prime ["value"] (defScope (topAt 19)) := ⟨rfl, rfl, rfl, by decide +kernel, rfl, by decide +kernel, by decide +kernel⟩
def wb_require_prime : WS := (wIf (wNot (wTest (wCall sp_is_prime (wCons (wVar 0) wNil)))) wNever wNext)
theorem b_require_prime (T : Txt P w K mg base Z) (f : Addr) (cdv : Value) (A : Around) (outer : List Env) (s : Shared) (H : Hp) (E : XK) (hr : Room 3 (A.deeper (envOfC "require_prime" (defScope (topAt 19)) s.heap.objs.size f cdv))) :
    PSs (cxOf CX0 P w K mg base N_require_prime "require_prime" (defScope (topAt 19)) f cdv A outer s H E).nox (defBody (topAt 19)) (tS Z wb_require_prime) :=
  (pds_one (pd_if (pt_notD (pt_valD (pd_call (cal_is_prime T) hr (by decide) rfl (pd_cons (pd_var (i := 0) rfl (.inl rfl)) pd_nil)))) pds_never pds_nil))
end
def sp_require_prime : WL := fun ds Q => ∃ n : Int, ds = [.int n] ∧ n ≤ 10 ^ 6 ∧ prB n = true ∧ Q .non
theorem imp_require_prime : ∀ ds Q, sp_require_prime ds Q → ds.length = 1 ∧ wFn N_require_prime wb_require_prime ds Q := by
  rintro ds Q ⟨n, rfl, hn, hp, q⟩
  refine ⟨rfl, ?_⟩
  simp [wb_require_prime, N_require_prime]
  exact ⟨n, rfl, (prB_iff.mp hp).1, hn, by rw [hp], q⟩
theorem cal_require_prime {P : Program} {w : World} {K : PySem.W.Frag} {mg : Str → Option Value} {base : Heap} {Z : Zc} (T : Txt P w K mg base Z) : Cal P w K mg base Z 4 "require_prime" sp_require_prime :=
  cal_of T.d_require_prime sc_require_prime imp_require_prime fun f cdv A outer s H E hr => b_require_prime T f cdv A outer s H E hr
section
variable {P : Program} {w : World} {K : PySem.W.Frag} {mg : Str → Option Value} {base : Heap} {Z : Zc}
/-! ### exponent -/
def N_exponent : List Str := ["self", "prime", "number"]
theorem sc_exponent : FnScope N_exponent ["self", "prime", "number"] (defScope (clsAt 38 13)) := ⟨rfl, rfl, rfl, by decide +kernel, rfl, by decide +kernel, by decide +kernel⟩
def wb_exponent : WS := (wSeq (wExpr (wCall sp_require_prime (wCons (wVar 1) wNil))) (wSeq (wExpr (wCall sp_require_within (wCons (wVar 2) (wCons (wC (.int 0)) (wCons (wC (.int 1000000000000000000000000000000)) wNil))))) (wRet (wCall sp_exponent_of_row (wCons (wVar 0) (wCons (wVar 1) (wCons (wVar 2) wNil)))))))
theorem b_exponent (T : Txt P w K mg base Z) (f : Addr) (cdv : Value) (A : Around) (outer : List Env) (s : Shared) (H : Hp) (E : XK) (hr : Room 4 (A.deeper (envOfC "Quotient.exponent" (defScope (clsAt 38 13)) s.heap.objs.size f cdv))) :
    PSs (cxOf CX0 P w K mg base N_exponent "Quotient.exponent" (defScope (clsAt 38 13)) f cdv A outer s H E).nox (defBody (clsAt 38 13)) (tS Z wb_exponent) :=
  (pds_cons (pd_expr (pd_call (cal_require_prime T) hr (by decide) rfl (pd_cons (pd_var (i := 1) rfl (.inl rfl)) pd_nil)))
    (pds_cons (pd_expr (pd_call (cal_require_within T) hr (by decide) rfl (pd_cons (pd_var (i := 2) rfl (.inl rfl)) (pd_cons pd_int (pd_cons (pd_globI T.c_MOST_INDEX rfl) pd_nil)))))
    (pds_one (pd_ret (pd_call (cal_exponent_of_row T) hr (by decide) rfl (pd_cons (pd_var (i := 0) rfl (.inl rfl)) (pd_cons (pd_var (i := 1) rfl (.inl rfl)) (pd_cons (pd_var (i := 2) rfl (.inl rfl)) pd_nil))))))))
end
def sp_exponent : WL := fun ds Q => ∃ (ts bs : List Int) (p n : Int), ds = [.row ts bs, .int p, .int n] ∧ Small ts bs ∧ prB p = true ∧ p ≤ 10 ^ 6 ∧ 0 ≤ n ∧ n ≤ 10 ^ 30 ∧ Q (.int (expo ts bs p n))
theorem imp_exponent : ∀ ds Q, sp_exponent ds Q → ds.length = 3 ∧ wFn N_exponent wb_exponent ds Q := by
  rintro ds Q ⟨ts, bs, p, n, rfl, h, hp, hp2, h0, h1, q⟩
  refine ⟨rfl, ?_⟩
  simp [wb_exponent, N_exponent]
  refine ⟨p, rfl, hp2, hp, ⟨h0, h1⟩, ts, bs, p, n, rfl, h, (prB_iff.mp hp).1, by omega, h0, h1, q⟩
theorem at_exponent {P : Program} {w : World} {K : PySem.W.Frag} {mg : Str → Option Value} {base : Heap} {Z : Zc} (T : Txt P w K mg base Z) : MethAt P w K mg base Z 5 "exponent" sp_exponent := by
  obtain ⟨f, h1, h2⟩ := T.m_exponent
  exact ⟨f, h1, fnr_of h2 sc_exponent imp_exponent fun cdv A outer s H E hr => b_exponent T f cdv A outer s H E hr⟩
end DL

namespace DL
open PySem PySem.Spec PyProof.Rows L2
/-! ### the sieve -/
theorem least_div {n : Int} (hn : 2 ≤ n) : ∃ p, prB p = true ∧ n % p = 0 ∧ (p = n ∨ p * p ≤ n) := by
  have key : ∀ k : Nat, (∀ d, 2 ≤ d → d < 2 + (k : Int) → n % d ≠ 0) ∨ ∃ p, 2 ≤ p ∧ n % p = 0 ∧ ∀ d, 2 ≤ d → d < p → n % d ≠ 0 := by
    intro k
    induction k with
    | zero => exact .inl fun d h1 h2 => by omega
    | succ k ih =>
      rcases ih with h | h
      · by_cases e : n % (2 + (k : Int)) = 0
        · exact .inr ⟨2 + (k : Int), by omega, e, h⟩
        · refine .inl fun d h1 h2 => ?_
          by_cases e2 : d = 2 + (k : Int)
          · rw [e2]; exact e
          · exact h d h1 (by omega)
      · exact .inr h
  rcases key (n.toNat + 1) with h | ⟨p, hp, hd, hm⟩
  · exact absurd (Int.emod_self) (h n hn (by omega))
  · have hle : p ≤ n := Int.le_of_dvd (by omega) (Int.dvd_of_emod_eq_zero hd)
    have hpp : prB p = true := prB_iff.mpr ⟨hp, fun d h1 h2 e => hm d h1 h2 (Int.emod_eq_zero_of_dvd (Int.dvd_trans (Int.dvd_of_emod_eq_zero e) (Int.dvd_of_emod_eq_zero hd)))⟩
    refine ⟨p, hpp, hd, ?_⟩
    by_cases e : p = n
    · exact .inl e
    · refine .inr ?_
      have e1 : n = p * (n / p) := by have := Int.mul_ediv_add_emod n p; omega
      have hq : 2 ≤ n / p := by
        by_cases hq : n / p ≤ 1
        · have : p * (n / p) ≤ p * 1 := Int.mul_le_mul_of_nonneg_left hq (by omega)
          omega
        · omega
      have hqp : p ≤ n / p := by
        by_cases hqp : p ≤ n / p
        · exact hqp
        · exact absurd (Int.emod_eq_zero_of_dvd ⟨p, by rw [Int.mul_comm]; exact e1⟩) (hm (n / p) hq (by omega))
      have : p * p ≤ p * (n / p) := Int.mul_le_mul_of_nonneg_left hqp (by omega)
      omega
/-- range(a, b, c), c positive -/
theorem rgC_pos {a b c : Int} (hc : 1 ≤ c) (hc2 : c < 2 ^ 29) (ha : 0 ≤ a) (ha2 : a < 2 ^ 40) (hb : 0 ≤ b) (hb2 : b < 2 ^ 40) : RgC a b c (Builtin.Range.rangeSize a b c).toNat := by
  have h0 : 0 ≤ Builtin.Range.rangeSize a b c ∧ Builtin.Range.rangeSize a b c ≤ 2 ^ 40 := by
    unfold Builtin.Range.rangeSize
    rw [if_pos (by omega)]
    split
    · have h1 := Int.ediv_le_self c (show (0 : Int) ≤ b - a - 1 by omega)
      have h2 := Int.ediv_nonneg (a := b - a - 1) (b := c) (by omega) (by omega)
      omega
    · omega
  refine ⟨by omega, by omega, ?_, by omega⟩
  unfold Builtin.Range.small
  rw [if_pos (show c > 0 by omega)]
  simp only [Builtin.Range.rangeFitsLong, Bool.and_eq_true, Bool.or_eq_true, decide_eq_true_eq, beq_iff_eq]
  omega
theorem rngC_succ (a c : Int) (m : Nat) : rngC a c (m + 1) = .int a :: rngC (a + c) c m := by
  unfold rngC
  rw [List.range_succ_eq_map, List.map_cons, List.map_map]
  congr 1
  · congr 1; simp
  · apply List.map_congr_left
    intro i _
    simp only [Function.comp]
    congr 1
    rw [Int.natCast_succ, Int.add_mul]; omega
/-- the marks of one turn -/
def mark (c : Int) : List Bool → Int → Nat → List Bool
  | bs, _, 0 => bs
  | bs, a, m + 1 => mark c (bs.set a.toNat false) (a + c) m
theorem mark_len (c : Int) : ∀ (m : Nat) (bs : List Bool) (a : Int), (mark c bs a m).length = bs.length
  | 0, _, _ => rfl
  | m + 1, bs, a => by
    show (mark c (bs.set a.toNat false) (a + c) m).length = _
    rw [mark_len c m, List.length_set]
theorem mark_get (c : Int) (hc : 1 ≤ c) (k : Int) (hk : 0 ≤ k) : ∀ (m : Nat) (bs : List Bool) (a : Int), 0 ≤ a → k.toNat < bs.length →
    ((mark c bs a m)[k.toNat]? = some false ↔ bs[k.toNat]? = some false ∨ ∃ i : Nat, i < m ∧ k = a + i * c)
  | 0, bs, a, _, _ => by
    show bs[k.toNat]? = some false ↔ _
    constructor
    · exact .inl
    · rintro (h | ⟨i, h, _⟩)
      · exact h
      · omega
  | m + 1, bs, a, ha, hl => by
    show (mark c (bs.set a.toNat false) (a + c) m)[k.toNat]? = some false ↔ _
    rw [mark_get c hc k hk m _ _ (by omega) (by rw [List.length_set]; exact hl)]
    by_cases e : k = a
    · subst e
      rw [List.getElem?_set_self hl]
      simp only [true_or, true_iff]
      exact .inr ⟨0, by omega, by simp⟩
    · rw [List.getElem?_set_ne (by omega)]
      constructor
      · rintro (h | ⟨i, h1, h2⟩)
        · exact .inl h
        · refine .inr ⟨i + 1, by omega, ?_⟩
          rw [h2, Int.natCast_succ, Int.add_mul]; omega
      · rintro (h | ⟨i, h1, h2⟩)
        · exact .inl h
        · cases i with
          | zero => exact absurd (by rw [h2]; simp) e
          | succ i =>
            refine .inr ⟨i, by omega, ?_⟩
            rw [h2, Int.natCast_succ, Int.add_mul]; omega
theorem bls_set (bs : List Bool) (i : Nat) : (bs.map D.bl).set i (.bl false) = (bs.set i false).map D.bl := by rw [List.map_set]
theorem mark_loop (E : EndsD) (v f o : Sl) (c : Int) : ∀ (m : Nat) (bs : List Bool) (a : Int) (s : Sl), 0 ≤ a → 1 ≤ c → (m = 0 ∨ a + (m - 1) * c < bs.length) →
    (∀ s, E.nx [v, .own (.lst ((mark c bs a m).map D.bl)), f, o, s]) →
    forD (gN 4) (wPutL 1 (wC (.bl false)) (wVar 4)) E (rngC a c m) [v, .own (.lst (bs.map D.bl)), f, o, s]
  | 0, bs, a, s, _, _, _, q => q s
  | m + 1, bs, a, s, ha, hc, hl, q => by
    rw [rngC_succ]
    have hm : (0 : Int) ≤ m * c := Int.mul_nonneg (by omega) (by omega)
    have hl' : a + m * c < bs.length := by
      rcases hl with h | h
      · omega
      · have e : ((m + 1 : Nat) : Int) - 1 = m := by omega
        rw [e] at h; exact h
    have hix : ixN (bs.map D.bl).length a = some a.toNat := by
      unfold ixN
      rw [if_pos ha, if_pos (by rw [List.length_map]; omega)]
    have := mark_loop E v f o c m (bs.set a.toNat false) (a + c) (.val (.int a)) (by omega) hc (by
      cases m with
      | zero => exact .inl rfl
      | succ m =>
        refine .inr ?_
        rw [List.length_set]
        have e : ((m + 1 : Nat) : Int) * c = (((m + 1 : Nat) : Int) - 1) * c + c := by
          rw [Int.sub_mul]; omega
        omega) q
    show gN 4 (.int a) _ _
    refine ⟨bs.map D.bl, rfl, ⟨.int a, rfl, a, a.toNat, rfl, hix, ?_⟩⟩
    show forD (gN 4) (wPutL 1 (wC (.bl false)) (wVar 4)) E (rngC (a + c) c m) [v, .own (.lst ((bs.map D.bl).set a.toNat (.bl false))), f, o, .val (.int a)]
    rw [bls_set]
    exact this
section
variable {P : Program} {w : World} {K : PySem.W.Frag} {mg : Str → Option Value} {base : Heap} {Z : Zc}
/-! ### primes_up_to -/
def N_primes_up_to : List Str := ["number", "sieve", "found", "one", "other"]
theorem sc_primes_up_to : FnScope N_primes_up_to ["number"] (defScope (topAt 61)) := ⟨rfl, rfl, rfl, by decide +kernel, rfl, by decide +kernel, by decide +kernel⟩
def wb_primes_up_to : WS := (wSeq (wPar2 1 2 .new .new (wOp aRep (wLst (wCons (wC (.bl true)) wNil)) (wOp aAdd (wVar 0) (wC (.int 1)))) (wLst wNil)) (wSeq (wFor (wIR2 (wCons (wC (.int 2)) (wCons (wOp aAdd (wVar 0) (wC (.int 1))) wNil))) (gN 3) (wIf (wTest (wOp aIx (wOwn 1) (wVar 3))) (wSeq (wApp 2 (wVar 3)) (wFor (wIR3 (wCons (wOp aMul (wVar 3) (wVar 3)) (wCons (wOp aAdd (wVar 0) (wC (.int 1))) (wCons (wVar 3) wNil)))) (gN 4) (wPutL 1 (wC (.bl false)) (wVar 4)))) wNext)) (wRetOwn 2)))
theorem b_primes_up_to (T : Txt P w K mg base Z) (f : Addr) (cdv : Value) (A : Around) (outer : List Env) (s : Shared) (H : Hp) (E : XK) (hr : Room 0 (A.deeper (envOfC "primes_up_to" (defScope (topAt 61)) s.heap.objs.size f cdv))) :
    PSs (cxOf CX0 P w K mg base N_primes_up_to "primes_up_to" (defScope (topAt 61)) f cdv A outer s H E).nox (defBody (topAt 61)) (tS Z wb_primes_up_to) :=
  (pds_cons (pd_par2 (i := 1) (j := 2) (k1 := .new) (k2 := .new) (by decide) (by decide) rfl sc_primes_up_to.nd rfl rfl (by decide) rfl rfl (pd_op op_rep od_rep (pe_nv (pd_lst (pd_cons pd_bl pd_nil))) (pe_vw (pd_op op_add od_add (pe_vw (pd_var (i := 0) rfl (.inl rfl))) (pe_vw pd_int)))) (pd_lst pd_nil) (by rfl))
    (pds_cons (pd_for (pd_ir2 rfl T.h_range (pd_consV (pe_vw pd_int) (pd_consV (pe_vw (pd_op op_add od_add (pe_vw (pd_var (i := 0) rfl (.inl rfl))) (pe_vw pd_int))) pd_nil))) (pd_gn (i := 3) (is := [3]) (by decide) sc_primes_up_to.nd rfl (.inl rfl)) (pds_one (pd_if (pt_valD (pd_ix T.z.k (pd_own (i := 1) rfl (.inl rfl)) (pe_vw (pd_var (i := 3) rfl (.inl rfl))))) (pds_cons (pd_app (j := 2) rfl (.inl rfl) (pd_var (i := 3) rfl (.inl rfl)))
    (pds_one (pd_for (pd_ir3 rfl T.h_range (pd_consV (pe_vw (pd_op op_mulW od_mul (pe_vw (pd_var (i := 3) rfl (.inl rfl))) (pe_vw (pd_var (i := 3) rfl (.inl rfl))))) (pd_consV (pe_vw (pd_op op_add od_add (pe_vw (pd_var (i := 0) rfl (.inl rfl))) (pe_vw pd_int))) (pd_consV (pe_vw (pd_var (i := 3) rfl (.inl rfl))) pd_nil)))) (pd_gn (i := 4) (is := [4]) (by decide) sc_primes_up_to.nd rfl (.inl rfl)) (pds_one (pd_putL (j := 1) rfl (.inl rfl) (pe_vw (pd_var (i := 4) rfl (.inl rfl))) pd_bl)) PassesOwn.never rfl))) pds_nil)) PassesOwn.never rfl)
    (pds_one (pd_retOwn (i := 2) rfl (.inl rfl)))))
end
def prs (n : Int) : List Int := (rngI 2 (n - 1).toNat).filter prB
def sp_primes_up_to : WL := fun ds Q => ∃ n : Int, ds = [.int n] ∧ 0 ≤ n ∧ n ≤ 10000 ∧ Q (.lst ((prs n).map D.int))
structure SieI (n one : Int) (bs : List Bool) : Prop where
  len : bs.length = (n + 1).toNat
  mks : ∀ k, one ≤ k → k ≤ n → (bs[k.toNat]? = some false ↔ ∃ p, prB p = true ∧ p < one ∧ k % p = 0 ∧ p * p ≤ k)
theorem sie_at {n one : Int} {bs : List Bool} (I : SieI n one bs) (h2 : 2 ≤ one) (hn : one ≤ n) : bs[one.toNat]? = some (prB one) := by
  have hl : one.toNat < bs.length := by rw [I.len]; omega
  have key := I.mks one (Int.le_refl _) hn
  have e := List.getElem?_eq_getElem hl
  rw [e] at key ⊢
  congr 1
  cases h : bs[one.toNat] with
  | false =>
    obtain ⟨p, hp, hlt, hd, _⟩ := key.mp (by rw [h])
    cases hq : prB one with
    | false => rfl
    | true => exact absurd hd ((prB_iff.mp hq).2 p (prB_iff.mp hp).1 hlt)
  | true =>
    cases hq : prB one with
    | true => rfl
    | false =>
      obtain ⟨p, hp, hd, hle⟩ := least_div h2
      have p2 := (prB_iff.mp hp).1
      rcases hle with e2 | hle
      · rw [e2, hq] at hp; cases hp
      · have : p * 2 ≤ p * p := Int.mul_le_mul_of_nonneg_left p2 (by omega)
        have := key.mpr ⟨p, hp, by omega, hd, hle⟩
        rw [h] at this; cases this
theorem sie_next {n one : Int} {bs : List Bool} (I : SieI n one bs) (h2 : 2 ≤ one) (hn : one ≤ n) (hn2 : n ≤ 10000) (hp : prB one = true) : SieI n (one + 1) (mark one bs (one * one) (Builtin.Range.rangeSize (one * one) (n + 1) one).toNat) := by
  have hoo : 0 ≤ one * one := Int.mul_nonneg (by omega) (by omega)
  refine ⟨by rw [mark_len]; exact I.len, fun k h1 h2' => ?_⟩
  rw [mark_get one (by omega) k (by omega) _ _ _ hoo (by rw [I.len]; omega), I.mks k (by omega) h2']
  have hmem : (∃ i : Nat, i < (Builtin.Range.rangeSize (one * one) (n + 1) one).toNat ∧ k = one * one + i * one) ↔ (k % one = 0 ∧ one * one ≤ k) := by
    unfold Builtin.Range.rangeSize
    rw [if_pos (show one > 0 by omega)]
    constructor
    · rintro ⟨i, _, e⟩
      have : (0 : Int) ≤ i * one := Int.mul_nonneg (by omega) (by omega)
      refine ⟨?_, by omega⟩
      rw [e, ← Int.add_mul]
      exact Int.mul_emod_left _ _
    · rintro ⟨e1, e2⟩
      have e3 : k = one * (k / one) := by have := Int.mul_ediv_add_emod k one; omega
      have h3 : one ≤ k / one := Int.le_ediv_of_mul_le (by omega) e2
      have e4 : k = one * one + (k / one - one) * one := by rw [Int.sub_mul, Int.mul_comm (k / one)]; omega
      refine ⟨(k / one - one).toNat, ?_, ?_⟩
      · rw [if_pos (by omega)]
        have h4 : k / one - one ≤ (n + 1 - one * one - 1) / one := Int.le_ediv_of_mul_le (by omega) (by omega)
        omega
      · rw [Int.toNat_of_nonneg (by omega)]; exact e4
  rw [hmem]
  constructor
  · rintro (⟨p, a, b, c, d⟩ | ⟨a, b⟩)
    · exact ⟨p, a, by omega, c, d⟩
    · exact ⟨one, hp, by omega, a, b⟩
  · rintro ⟨p, a, b, c, d⟩
    by_cases e : p = one
    · rw [e] at c d; exact .inr ⟨c, d⟩
    · exact .inl ⟨p, a, by omega, c, d⟩
theorem sie_skip {n one : Int} {bs : List Bool} (I : SieI n one bs) (hp : prB one = false) : SieI n (one + 1) bs := by
  refine ⟨I.len, fun k h1 h2 => ?_⟩
  rw [I.mks k (by omega) h2]
  constructor
  · rintro ⟨p, a, b, c, d⟩
    exact ⟨p, a, by omega, c, d⟩
  · rintro ⟨p, a, b, c, d⟩
    refine ⟨p, a, ?_, c, d⟩
    by_cases e : p = one
    · rw [e, hp] at a; cases a
    · omega
theorem sieve_loop (E : EndsD) (n : Int) (hn : n ≤ 10000) : ∀ (k : Nat) (one : Int) (bs : List Bool) (o s : Sl), 2 ≤ one → one + k = n + 1 → SieI n one bs →
    (∀ (bs : List Bool) (o s : Sl), E.nx [.val (.int n), .own (.lst (bs.map D.bl)), .own (.lst ((prs n).map D.int)), o, s]) →
    forD (gN 3) (wIf (wTest (wOp aIx (wOwn 1) (wVar 3))) (wSeq (wApp 2 (wVar 3)) (wFor (wIR3 (wCons (wOp aMul (wVar 3) (wVar 3)) (wCons (wOp aAdd (wVar 0) (wC (.int 1))) (wCons (wVar 3) wNil)))) (gN 4) (wPutL 1 (wC (.bl false)) (wVar 4)))) wNext) E
      (rngD one k) [.val (.int n), .own (.lst (bs.map D.bl)), .own (.lst (((rngI 2 (one - 2).toNat).filter prB).map D.int)), o, s]
  | 0, one, bs, o, s, h2, he, I, q => by
    have e : (one - 2).toNat = (n - 1).toNat := by omega
    show E.nx _
    rw [e]; exact q bs o s
  | k + 1, one, bs, o, s, h2, he, I, q => by
    rw [rngD_succ]
    have hat := sie_at I h2 (by omega)
    have hat2 : atI (bs.map D.bl) one = some (.bl (prB one)) := by
      have := atI_nat (bs.map D.bl) one.toNat (x := .bl (prB one)) (by rw [List.getElem?_map, hat]; rfl)
      rw [Int.toNat_of_nonneg (by omega)] at this
      exact this
    have en : (one + 1 - 2).toNat = (one - 2).toNat + 1 := by omega
    have el : 2 + ((one - 2).toNat : Int) = one := by omega
    have hlen : (((rngI 2 (one - 2).toNat).filter prB).map D.int).length < sizeLine := by
      rw [List.length_map]
      have h1 := List.length_filter_le prB (rngI 2 (one - 2).toNat)
      rw [rngI_len] at h1
      have := size_big
      omega
    have c1 : CMulW one one := mulW_of (a := 20) (b := 20) (by omega) (by omega)
    have hoo : one * one ≤ 10000 * one := Int.mul_le_mul_of_nonneg_right (by omega) (by omega)
    have hoo0 : 0 ≤ one * one := Int.mul_nonneg (by omega) (by omega)
    cases hp : prB one with
    | true =>
      rw [hp] at hat2
      have nxt := sieve_loop E n hn k (one + 1) (mark one bs (one * one) (Builtin.Range.rangeSize (one * one) (n + 1) one).toNat) (.val (.int one))
      have efil : (rngI 2 (one + 1 - 2).toNat).filter prB = (rngI 2 (one - 2).toNat).filter prB ++ [one] := by
        rw [en, rngI_succ', List.filter_append, el]
        simp [hp]
      rw [forD]
      simp [hat2, c1, -forD] at hlen ⊢
      refine ⟨by simpa using hlen, _, rgC_pos (by omega) (by omega) hoo0 (by omega) (by omega) (by omega), ?_⟩
      refine mark_loop _ _ _ _ one _ bs (one * one) s hoo0 (by omega) ?_ fun s' => ?_
      · by_cases e : (Builtin.Range.rangeSize (one * one) (n + 1) one).toNat = 0
        · exact .inl e
        · refine .inr ?_
          rw [I.len]
          unfold Builtin.Range.rangeSize at e ⊢
          rw [if_pos (show one > 0 by omega)] at e ⊢
          by_cases hlt : one * one < n + 1
          · rw [if_pos hlt] at e ⊢
            have h5 : 0 ≤ (n + 1 - one * one - 1) / one := Int.ediv_nonneg (by omega) (by omega)
            have h6 : (n + 1 - one * one - 1) / one * one ≤ n + 1 - one * one - 1 := Int.ediv_mul_le _ (by omega)
            have e7 : (((n + 1 - one * one - 1) / one + 1).toNat : Int) - 1 = (n + 1 - one * one - 1) / one := by omega
            rw [e7]
            omega
          · rw [if_neg hlt] at e; exact absurd rfl e
      · have := nxt s' (by omega) (by omega) (sie_next I h2 (by omega) hn hp) q
        rw [efil, List.map_append] at this
        exact this
    | false =>
      rw [hp] at hat2
      have efil : (rngI 2 (one + 1 - 2).toNat).filter prB = (rngI 2 (one - 2).toNat).filter prB := by
        rw [en, rngI_succ', List.filter_append, el]
        simp [hp]
      have nxt := sieve_loop E n hn k (one + 1) bs (.val (.int one)) s (by omega) (by omega) (sie_skip I hp) q
      rw [efil] at nxt
      rw [forD]
      simpa [hat2, -forD] using nxt
theorem imp_primes_up_to : ∀ ds Q, sp_primes_up_to ds Q → ds.length = 1 ∧ wFn N_primes_up_to wb_primes_up_to ds Q := by
  rintro ds Q ⟨n, rfl, h0, hn, q⟩
  refine ⟨rfl, ?_⟩
  have hz : (n + 1).toNat ≤ sizeLine := by have := size_big; omega
  simp [wb_primes_up_to, N_primes_up_to, -forD]
  refine ⟨by omega, by omega, ?_⟩
  have e : List.replicate (n + 1).toNat (D.bl true) = (List.replicate (n + 1).toNat true).map D.bl := by rw [List.map_replicate]
  rw [e]
  by_cases hs : 1 ≤ n
  · refine sieve_loop { nx := wRetOwn 2 { nx := fun _ => Q .non, rt := Q }, rt := Q } n hn (n + 1 - 2).toNat 2 _ .no .no (by decide) (by omega) ⟨by simp, fun k h1 h2 => ?_⟩ fun bs o s => ⟨_, rfl, q⟩
    rw [List.getElem?_replicate, if_pos (by omega)]
    constructor
    · intro h; cases h
    · rintro ⟨p, hp, h, _⟩
      have := (prB_iff.mp hp).1
      omega
  · have e1 : (n + 1 - 2).toNat = 0 := by omega
    have e2 : (n - 1).toNat = 0 := by omega
    rw [e1]
    refine ⟨_, rfl, ?_⟩
    have : prs n = [] := by unfold prs; rw [e2]; rfl
    rw [this] at q
    exact q
theorem cal_primes_up_to {P : Program} {w : World} {K : PySem.W.Frag} {mg : Str → Option Value} {base : Heap} {Z : Zc} (T : Txt P w K mg base Z) : Cal P w K mg base Z 1 "primes_up_to" sp_primes_up_to :=
  cal_of T.d_primes_up_to sc_primes_up_to imp_primes_up_to fun f cdv A outer s H E hr => b_primes_up_to T f cdv A outer s H E hr
end DL

namespace DL
open PySem PySem.Spec PyProof.Rows L2
/-! ### broken primes -/
theorem prs_mem {n p : Int} (h : p ∈ prs n) : prB p = true ∧ 2 ≤ p ∧ p ≤ n := by
  unfold prs at h
  rw [List.mem_filter, mem_rngI] at h
  exact ⟨h.2, by omega, by omega⟩
theorem prs_len {n : Int} (hn : n ≤ 10000) : (prs n).length ≤ 10000 := by
  unfold prs
  have h1 := List.length_filter_le prB (rngI 2 (n - 1).toNat)
  rw [rngI_len] at h1
  omega
def brk (ts bs : List Int) (n : Int) : List Int := (prs (maxL (ts ++ bs) * n)).filter fun p => decide (expo ts bs p n < 0)
section
variable {P : Program} {w : World} {K : PySem.W.Frag} {mg : Str → Option Value} {base : Heap} {Z : Zc}
/-! ### broken_in -/
def N_broken_in : List Str := ["row", "number", "prime"]
theorem sc_broken_in : FnScope N_broken_in ["row", "number"] (defScope (topAt 62)) := ⟨rfl, rfl, rfl, by decide +kernel, rfl, by decide +kernel, by decide +kernel⟩
def wb_broken_in : WS := (wRet (wLc (wIL (wCall sp_primes_up_to (wCons (wOp aMul (wProp sp_greatest (wVar 0)) (wVar 1)) wNil))) (gN 2) (wTest (wOp aLt (wCall sp_exponent_of_row (wCons (wVar 0) (wCons (wVar 2) (wCons (wVar 1) wNil)))) (wC (.int 0)))) (wVar 2) [2]))
theorem b_broken_in (T : Txt P w K mg base Z) (f : Addr) (cdv : Value) (A : Around) (outer : List Env) (s : Shared) (H : Hp) (E : XK) (hr : Room 2 (A.deeper (envOfC "broken_in" (defScope (topAt 62)) s.heap.objs.size f cdv))) :
    PSs (cxOf CX0 P w K mg base N_broken_in "broken_in" (defScope (topAt 62)) f cdv A outer s H E).nox (defBody (topAt 62)) (tS Z wb_broken_in) :=
  (pds_one (pd_ret (pe_frz (pd_lc (own := [("prime", 2)]) (is := [2]) rfl sc_broken_in.nd (pd_il (pd_call (cal_primes_up_to T) hr (by decide) rfl (pd_cons (pd_op op_mulW od_mul (pe_vw (pd_prop T.z (at_greatest T) hr (by decide) (pd_var (i := 0) rfl (.inr (.inl rfl))))) (pe_vw (pd_var (i := 1) rfl (.inr (.inl rfl))))) pd_nil))) (blkOk_by (N := N_broken_in) (sc := defScope (topAt 62)) (by decide +kernel)) (fun _ _ _ _ _ => (pd_gn (i := 2) (is := [2]) (by decide) sc_broken_in.nd rfl (.inl rfl))) (fun _ _ _ _ _ => (pd_if1 (pt_cmpD op_lt od_lt (pe_vw (pd_call (cal_exponent_of_row T) hr (by decide) rfl (pd_cons (pd_var (i := 0) rfl (.inr (.inl rfl))) (pd_cons (pd_var (i := 2) rfl (.inl rfl)) (pd_cons (pd_var (i := 1) rfl (.inr (.inl rfl))) pd_nil))))) (pe_vw pd_int)))) (fun _ _ _ _ _ => (pd_var (i := 2) rfl (.inl rfl))) (by decide)))))
end
def sp_broken_in : WL := fun ds Q => ∃ (ts bs : List Int) (n : Int), ds = [.row ts bs, .int n] ∧ Small ts bs ∧ 0 ≤ n ∧ n ≤ 150 ∧ Q (.lst ((brk ts bs n).map D.int))
theorem most150 {ts bs : List Int} (h : Small ts bs) {n : Int} (h0 : 0 ≤ n) (h1 : n ≤ 150) : 0 ≤ maxL (ts ++ bs) * n ∧ maxL (ts ++ bs) * n ≤ 10000 ∧ CMulW (maxL (ts ++ bs)) n := by
  have hm := h.1 _ (maxL_mem h.2.2.2)
  have : maxL (ts ++ bs) * n ≤ 60 * n := Int.mul_le_mul_of_nonneg_right hm.2 h0
  exact ⟨Int.mul_nonneg (by omega) h0, by omega, mulW_of (a := 10) (b := 10) (by omega) (by omega)⟩
theorem imp_broken_in : ∀ ds Q, sp_broken_in ds Q → ds.length = 2 ∧ wFn N_broken_in wb_broken_in ds Q := by
  rintro ds Q ⟨ts, bs, n, rfl, h, h0, h1, q⟩
  refine ⟨rfl, ?_⟩
  obtain ⟨b0, b1, c1⟩ := most150 h h0 h1
  simp [wb_broken_in, N_broken_in, h, c1, -lcD]
  refine ⟨_, rfl, b0, b1, _, rfl, ?_⟩
  refine lc_pure D.int (fun p => decide (expo ts bs p n < 0)) D.int (prs (maxL (ts ++ bs) * n)) [] (fun p hp K1 K0 k1 k0 => ?_) (by have := size_big; have := prs_len b1; simp; omega) (by simpa [brk] using q)
  obtain ⟨hp1, hp2, hp3⟩ := prs_mem hp
  simp
  refine ⟨ts, bs, p, n, rfl, h, hp2, by omega, h0, by omega, ?_⟩
  by_cases e : expo ts bs p n < 0
  · simpa [e] using k1 (by simpa using e)
  · simpa [e] using k0 (by simpa using e)
theorem cal_broken_in {P : Program} {w : World} {K : PySem.W.Frag} {mg : Str → Option Value} {base : Heap} {Z : Zc} (T : Txt P w K mg base Z) : Cal P w K mg base Z 3 "broken_in" sp_broken_in :=
  cal_of T.d_broken_in sc_broken_in imp_broken_in fun f cdv A outer s H E hr => b_broken_in T f cdv A outer s H E hr
section
variable {P : Program} {w : World} {K : PySem.W.Frag} {mg : Str → Option Value} {base : Heap} {Z : Zc}
/-! ### is_broken_in -/
def N_is_broken_in : List Str := ["row", "number", "prime"]
theorem sc_is_broken_in : FnScope N_is_broken_in ["row", "number"] (defScope (topAt 63)) := ⟨rfl, rfl, rfl, by decide +kernel, rfl, by decide +kernel, by decide +kernel⟩
def wb_is_broken_in : WS := (wRet (wCall aAny (wCons (wLc (wIL (wCall sp_primes_up_to (wCons (wOp aMul (wProp sp_greatest (wVar 0)) (wVar 1)) wNil))) (gN 2) wYes (wOp aLt (wCall sp_exponent_of_row (wCons (wVar 0) (wCons (wVar 2) (wCons (wVar 1) wNil)))) (wC (.int 0))) [2]) wNil)))
theorem b_is_broken_in (T : Txt P w K mg base Z) (f : Addr) (cdv : Value) (A : Around) (outer : List Env) (s : Shared) (H : Hp) (E : XK) (hr : Room 2 (A.deeper (envOfC "is_broken_in" (defScope (topAt 63)) s.heap.objs.size f cdv))) :
    PSs (cxOf CX0 P w K mg base N_is_broken_in "is_broken_in" (defScope (topAt 63)) f cdv A outer s H E).nox (defBody (topAt 63)) (tS Z wb_is_broken_in) :=
  (pds_one (pd_ret (pd_callB cd_any (cr_any rfl) rfl T.h_any boot_any (pd_consV (pe_nv (pd_lc (own := [("prime", 2)]) (is := [2]) rfl sc_is_broken_in.nd (pd_il (pd_call (cal_primes_up_to T) hr (by decide) rfl (pd_cons (pd_op op_mulW od_mul (pe_vw (pd_prop T.z (at_greatest T) hr (by decide) (pd_var (i := 0) rfl (.inr (.inl rfl))))) (pe_vw (pd_var (i := 1) rfl (.inr (.inl rfl))))) pd_nil))) (blkOk_by (N := N_is_broken_in) (sc := defScope (topAt 63)) (by decide +kernel)) (fun _ _ _ _ _ => (pd_gn (i := 2) (is := [2]) (by decide) sc_is_broken_in.nd rfl (.inl rfl))) (fun _ _ _ _ _ => pd_yes) (fun _ _ _ _ _ => (pd_cmp op_lt od_lt (pe_vw (pd_call (cal_exponent_of_row T) hr (by decide) rfl (pd_cons (pd_var (i := 0) rfl (.inr (.inl rfl))) (pd_cons (pd_var (i := 2) rfl (.inl rfl)) (pd_cons (pd_var (i := 1) rfl (.inr (.inl rfl))) pd_nil))))) (pe_vw pd_int))) (by decide))) pd_nil))))
end
def sp_is_broken_in : WL := fun ds Q => ∃ (ts bs : List Int) (n : Int), ds = [.row ts bs, .int n] ∧ Small ts bs ∧ 0 ≤ n ∧ n ≤ 150 ∧ Q (.bl (decide (brk ts bs n ≠ [])))
theorem imp_is_broken_in : ∀ ds Q, sp_is_broken_in ds Q → ds.length = 2 ∧ wFn N_is_broken_in wb_is_broken_in ds Q := by
  rintro ds Q ⟨ts, bs, n, rfl, h, h0, h1, q⟩
  refine ⟨rfl, ?_⟩
  obtain ⟨b0, b1, c1⟩ := most150 h h0 h1
  simp [wb_is_broken_in, N_is_broken_in, h, c1, -lcD, -aBs]
  refine ⟨_, rfl, b0, b1, _, rfl, ?_⟩
  refine lc_map D.int (fun p => .bl (decide (expo ts bs p n < 0))) (prs (maxL (ts ++ bs) * n)) (fun p hp K1 k1 => ?_) (by have := size_big; have := prs_len b1; omega) ?_
  · obtain ⟨hp1, hp2, hp3⟩ := prs_mem hp
    simp
    exact ⟨ts, bs, p, n, rfl, h, hp2, by omega, h0, by omega, by simpa using k1⟩
  · refine ⟨(prs (maxL (ts ++ bs) * n)).map fun p => decide (expo ts bs p n < 0), by rw [List.map_map]; rfl, ?_⟩
    have e : ((prs (maxL (ts ++ bs) * n)).map fun p => decide (expo ts bs p n < 0)).any id = decide (brk ts bs n ≠ []) := by
      rw [Bool.eq_iff_iff, List.any_map, decide_eq_true_eq]
      unfold brk
      rw [List.any_eq_true]
      constructor
      · rintro ⟨p, hp, e⟩ z
        have : p ∈ (prs (maxL (ts ++ bs) * n)).filter fun p => decide (expo ts bs p n < 0) := List.mem_filter.mpr ⟨hp, e⟩
        rw [z] at this; cases this
      · intro z
        obtain ⟨p, hp⟩ := List.exists_mem_of_ne_nil _ z
        exact ⟨p, (List.mem_filter.mp hp).1, (List.mem_filter.mp hp).2⟩
    show Q (.bl (((prs (maxL (ts ++ bs) * n)).map fun p => decide (expo ts bs p n < 0)).any id))
    rw [e]; exact q
theorem cal_is_broken_in {P : Program} {w : World} {K : PySem.W.Frag} {mg : Str → Option Value} {base : Heap} {Z : Zc} (T : Txt P w K mg base Z) : Cal P w K mg base Z 3 "is_broken_in" sp_is_broken_in :=
  cal_of T.d_is_broken_in sc_is_broken_in imp_is_broken_in fun f cdv A outer s H E hr => b_is_broken_in T f cdv A outer s H E hr
section
variable {P : Program} {w : World} {K : PySem.W.Frag} {mg : Str → Option Value} {base : Heap} {Z : Zc}
/-! ### broken_primes -/
def N_broken_primes : List Str := ["row", "number"]
theorem sc_broken_primes : FnScope N_broken_primes ["row", "number"] (defScope (topAt 65)) := ⟨rfl, rfl, rfl, by decide +kernel, rfl, by decide +kernel, by decide +kernel⟩
def wb_broken_primes : WS := (wSeq (wExpr (wCall sp_require_row (wCons (wVar 0) wNil))) (wSeq (wExpr (wCall sp_require_within (wCons (wVar 1) (wCons (wC (.int 0)) (wCons (wC (.int 1000)) wNil))))) (wRet (wCall aTuple (wCons (wCall sp_broken_in (wCons (wVar 0) (wCons (wVar 1) wNil))) wNil)))))
theorem b_broken_primes (T : Txt P w K mg base Z) (f : Addr) (cdv : Value) (A : Around) (outer : List Env) (s : Shared) (H : Hp) (E : XK) (hr : Room 3 (A.deeper (envOfC "broken_primes" (defScope (topAt 65)) s.heap.objs.size f cdv))) :
    PSs (cxOf CX0 P w K mg base N_broken_primes "broken_primes" (defScope (topAt 65)) f cdv A outer s H E).nox (defBody (topAt 65)) (tS Z wb_broken_primes) :=
  (pds_cons (pd_expr (pd_call (cal_require_row T) hr (by decide) rfl (pd_cons (pd_var (i := 0) rfl (.inl rfl)) pd_nil)))
    (pds_cons (pd_expr (pd_call (cal_require_within T) hr (by decide) rfl (pd_cons (pd_var (i := 1) rfl (.inl rfl)) (pd_cons pd_int (pd_cons (pd_globI T.c_MAX_PRIMED rfl) pd_nil)))))
    (pds_one (pd_ret (pd_callTy (cd_tuple T.z.k) call_tuple_of rfl T.h_tuple boot_tuple (pd_consV (pe_vw (pd_call (cal_broken_in T) hr (by decide) rfl (pd_cons (pd_var (i := 0) rfl (.inl rfl)) (pd_cons (pd_var (i := 1) rfl (.inl rfl)) pd_nil)))) pd_nil))))))
end
def sp_broken_primes : WL := fun ds Q => ∃ (ts bs : List Int) (n : Int), ds = [.row ts bs, .int n] ∧ Small ts bs ∧ 0 ≤ n ∧ n ≤ 150 ∧ Q (.tup ((brk ts bs n).map D.int))
theorem imp_broken_primes : ∀ ds Q, sp_broken_primes ds Q → ds.length = 2 ∧ wFn N_broken_primes wb_broken_primes ds Q := by
  rintro ds Q ⟨ts, bs, n, rfl, h, h0, h1, q⟩
  refine ⟨rfl, ?_⟩
  simp [wb_broken_primes, N_broken_primes]
  exact ⟨⟨h0, by omega⟩, ts, bs, n, rfl, h, h0, h1, by simpa using q⟩
theorem cal_broken_primes {P : Program} {w : World} {K : PySem.W.Frag} {mg : Str → Option Value} {base : Heap} {Z : Zc} (T : Txt P w K mg base Z) : Cal P w K mg base Z 4 "broken_primes" sp_broken_primes :=
  cal_of T.d_broken_primes sc_broken_primes imp_broken_primes fun f cdv A outer s H E hr => b_broken_primes T f cdv A outer s H E hr
section
variable {P : Program} {w : World} {K : PySem.W.Frag} {mg : Str → Option Value} {base : Heap} {Z : Zc}
/-! ### exponents_at -/
def N_exponents_at : List Str := ["row", "number", "told", "prime", "exponent"]
theorem sc_exponents_at : FnScope N_exponents_at ["row", "number"] (defScope (topAt 66)) := ⟨rfl, rfl, rfl, by decide +kernel, rfl, by decide +kernel, by decide +kernel⟩
def wb_exponents_at : WS := (wSeq (wExpr (wCall sp_require_row (wCons (wVar 0) wNil))) (wSeq (wExpr (wCall sp_require_within (wCons (wVar 1) (wCons (wC (.int 0)) (wCons (wC (.int 1000)) wNil))))) (wSeq (wSet 2 (wLock (wDc (wIL (wCall sp_primes_up_to (wCons (wOp aMul (wProp sp_greatest (wVar 0)) (wVar 1)) wNil))) (gN 3) wYes (wVar 3) (wCall sp_exponent_of_row (wCons (wVar 0) (wCons (wVar 3) (wCons (wVar 1) wNil)))) [3]))) (wRet (wLock (wDc (wIItems (wVar 2)) (gT 2 (gsC (gN 3) (gsC (gN 4) gsN))) (wTest (wOp (aEq true) (wVar 4) (wC (.int 0)))) (wVar 3) (wVar 4) [3, 4]))))))
theorem b_exponents_at (T : Txt P w K mg base Z) (f : Addr) (cdv : Value) (A : Around) (outer : List Env) (s : Shared) (H : Hp) (E : XK) (hr : Room 3 (A.deeper (envOfC "exponents_at" (defScope (topAt 66)) s.heap.objs.size f cdv))) :
    PSs (cxOf CX0 P w K mg base N_exponents_at "exponents_at" (defScope (topAt 66)) f cdv A outer s H E).nox (defBody (topAt 66)) (tS Z wb_exponents_at) :=
  (pds_cons (pd_expr (pd_call (cal_require_row T) hr (by decide) rfl (pd_cons (pd_var (i := 0) rfl (.inr (.inl rfl))) pd_nil)))
    (pds_cons (pd_expr (pd_call (cal_require_within T) hr (by decide) rfl (pd_cons (pd_var (i := 1) rfl (.inr (.inl rfl))) (pd_cons pd_int (pd_cons (pd_globI T.c_MAX_PRIMED rfl) pd_nil)))))
    (pds_cons (pd_setDc (i := 2) (own := [("prime", 3)]) (is := [3]) rfl sc_exponents_at.nd rfl rfl (sw_trueD rfl rfl rfl (by decide +kernel)) (pd_il (pd_call (cal_primes_up_to T) hr (by decide) rfl (pd_cons (pd_op op_mulW od_mul (pe_vw (pd_prop T.z (at_greatest T) hr (by decide) (pd_var (i := 0) rfl (.inr (.inl rfl))))) (pe_vw (pd_var (i := 1) rfl (.inr (.inl rfl))))) pd_nil))) (blkOk_by (N := N_exponents_at) (sc := defScope (topAt 66)) (by decide +kernel)) (fun _ _ _ _ _ => (pd_gn (i := 3) (is := [3]) (by decide) sc_exponents_at.nd rfl (.inl rfl))) (fun _ _ _ _ _ => pd_yes) (fun _ _ _ _ _ => (pd_var (i := 3) rfl (.inl rfl))) (fun _ _ _ _ _ => (pd_call (cal_exponent_of_row T) hr (by decide) rfl (pd_cons (pd_var (i := 0) rfl (.inr (.inl rfl))) (pd_cons (pd_var (i := 3) rfl (.inl rfl)) (pd_cons (pd_var (i := 1) rfl (.inr (.inl rfl))) pd_nil))))) (by decide))
    (pds_one (pd_ret (pd_lock (pd_dc (own := [("prime", 3), ("exponent", 4)]) (is := [3, 4]) rfl sc_exponents_at.nd (pd_iitems (pd_var (i := 2) rfl (.inl rfl))) (blkOk_by (N := N_exponents_at) (sc := defScope (topAt 66)) (by decide +kernel)) (fun _ _ _ _ _ => (pd_gt (n := 2) T.z.k rfl (pd_gsc (pd_gn (i := 3) (is := [3, 4]) (by decide) sc_exponents_at.nd rfl (.inl rfl)) (pd_gsc (pd_gn (i := 4) (is := [3, 4]) (by decide) sc_exponents_at.nd rfl (.inl rfl)) pd_gsn)))) (fun _ _ _ _ _ => (pd_if1 (pt_cmpD (op_neD hr.units) (od_ne T.z.k) (pe_vw (pd_var (i := 4) rfl (.inl rfl))) (pe_vw pd_int)))) (fun _ _ _ _ _ => (pd_var (i := 3) rfl (.inl rfl))) (fun _ _ _ _ _ => (pd_var (i := 4) rfl (.inl rfl))) (by decide))))))))
end
/-- the exponents that are not 0 -/
def expAt (ts bs : List Int) (n : Int) : List (Int × Int) := ((prs (maxL (ts ++ bs) * n)).map fun p => (p, expo ts bs p n)).filter fun q => decide (q.2 ≠ 0)
def sp_exponents_at : WL := fun ds Q => ∃ (ts bs : List Int) (n : Int), ds = [.row ts bs, .int n] ∧ Small ts bs ∧ 0 ≤ n ∧ n ≤ 150 ∧ Q (.dicL (expAt ts bs n))
/-- a dict comprehension of pure parts with distinct keys -/
theorem putI_new {kvs : List (Int × Int)} {k v : Int} (h : k ∉ kvs.map (·.1)) : putI kvs k v = kvs ++ [(k, v)] := by
  unfold putI
  rw [if_neg]
  rw [List.any_eq_true]
  rintro ⟨p, hp, e⟩
  exact h (List.mem_map.mpr ⟨p, hp, of_decide_eq_true e⟩)
theorem dc_pure {α : Type} {g : WG} {wt : WT} {wk wv : WE} {env : En} {K : List (Int × Int) → Prop} (f : α → D) (c : α → Bool) (hk hv : α → Int) : ∀ (xs : List α) (acc : List (Int × Int)),
    (∀ x ∈ xs, ∀ (K1 : Prop) (K0 : Prop) (R : D → D → Prop), (R (.int (hk x)) (.int (hv x)) → K1) → (c x = true → R (.int (hk x)) (.int (hv x))) → (c x = false → K0) → g (f x) env fun env1 => wt env1 fun b => if b = true then wk env1 fun k => wv env1 fun v => R k v else K0) →
    acc.length + xs.length ≤ sizeLine → (acc.map (·.1) ++ xs.map hk).Nodup → K (acc ++ (xs.filter c).map fun x => (hk x, hv x)) → dcD g wt wk wv env K (xs.map f) acc
  | [], acc, _, _, _, k => by simpa using k
  | x :: xs, acc, hx, hl, nd, k => by
    have hl' : acc.length + xs.length + 1 ≤ sizeLine := hl
    have hnew : hk x ∉ acc.map (·.1) := by
      intro z
      exact (List.nodup_append.mp nd).2.2 (hk x) z (hk x) (by simp) rfl
    show g (f x) env fun env1 => wt env1 fun b => if b = true then wk env1 fun k => wv env1 fun v => ∃ i j, k = .int i ∧ v = .int j ∧ acc.length < sizeLine ∧ dcD g wt wk wv env K (xs.map f) (putI acc i j) else dcD g wt wk wv env K (xs.map f) acc
    refine hx x List.mem_cons_self True _ (fun k v => ∃ i j, k = D.int i ∧ v = D.int j ∧ acc.length < sizeLine ∧ dcD g wt wk wv env K (xs.map f) (putI acc i j)) (fun _ => trivial) (fun e => ⟨_, _, rfl, rfl, by omega, ?_⟩) fun e => ?_
    · rw [putI_new hnew]
      refine dc_pure f c hk hv xs _ (fun y hy => hx y (List.mem_cons_of_mem _ hy)) (by rw [List.length_append, List.length_singleton]; omega) ?_ ?_
      · rw [List.map_append, List.append_assoc]; exact nd
      · rw [List.filter_cons, if_pos e, List.map_cons] at k
        rw [List.append_assoc]; exact k
    · refine dc_pure f c hk hv xs _ (fun y hy => hx y (List.mem_cons_of_mem _ hy)) (by omega) ?_ ?_
      · have : (acc.map (·.1) ++ xs.map hk).Sublist (acc.map (·.1) ++ (x :: xs).map hk) := List.Sublist.append (List.Sublist.refl _) (List.sublist_cons_self _ _)
        exact nd.sublist this
      · rw [List.filter_cons, if_neg (by rw [e]; decide)] at k
        exact k
theorem rngI_nodup (lo : Int) (n : Nat) : (rngI lo n).Nodup := by
  unfold rngI
  refine List.Pairwise.map _ (fun a b (h : a ≠ b) => ?_) List.nodup_range
  omega
theorem prs_nodup (n : Int) : (prs n).Nodup := (rngI_nodup 2 _).sublist List.filter_sublist
theorem imp_exponents_at : ∀ ds Q, sp_exponents_at ds Q → ds.length = 2 ∧ wFn N_exponents_at wb_exponents_at ds Q := by
  rintro ds Q ⟨ts, bs, n, rfl, h, h0, h1, q⟩
  refine ⟨rfl, ?_⟩
  obtain ⟨b0, b1, c1⟩ := most150 h h0 h1
  have hlen := prs_len b1
  simp [wb_exponents_at, N_exponents_at, h, c1, -dcD]
  refine ⟨⟨h0, by omega⟩, _, rfl, b0, b1, _, rfl, ?_⟩
  refine dc_pure D.int (fun _ => true) id (fun p => expo ts bs p n) (prs (maxL (ts ++ bs) * n)) [] (fun p hp K1 K0 R r1 r2 r0 => ?_) (by have := size_big; simp; omega) (by simpa using prs_nodup _) ?_
  · obtain ⟨hp1, hp2, hp3⟩ := prs_mem hp
    simp
    exact ⟨ts, bs, p, n, rfl, h, hp2, by omega, h0, by omega, by simpa using r2 rfl⟩
  · have ek : ((prs (maxL (ts ++ bs) * n)).filter fun _ => true).map (fun x => (id x, expo ts bs x n)) = (prs (maxL (ts ++ bs) * n)).map fun p => (p, expo ts bs p n) := by
      rw [List.filter_eq_self.mpr fun _ _ => rfl]; rfl
    rw [ek]
    simp [-dcD, -List.map_map]
    refine dc_pure (fun p : Int × Int => D.tup [.int p.1, .int p.2]) (fun q => decide (q.2 ≠ 0)) (·.1) (·.2) ((prs (maxL (ts ++ bs) * n)).map fun p => (p, expo ts bs p n)) [] (fun p hp K1 K0 R r1 r2 r0 => ?_) (by have := size_big; simp; omega) ?_ ?_
    · simp
      by_cases e : p.2 = 0
      · simpa [e] using r0 (by simp [e])
      · simpa [e] using r2 (by simp [e])
    · have e2 : ((prs (maxL (ts ++ bs) * n)).map fun p => (p, expo ts bs p n)).map (·.1) = prs (maxL (ts ++ bs) * n) := by
        rw [List.map_map]
        conv => rhs; rw [← List.map_id (prs (maxL (ts ++ bs) * n))]
        rfl
      rw [e2]
      simpa using prs_nodup _
    · have e3 : (((prs (maxL (ts ++ bs) * n)).map fun p => (p, expo ts bs p n)).filter fun q => decide (q.2 ≠ 0)).map (fun x => (x.1, x.2)) = expAt ts bs n := by
        unfold expAt
        conv => rhs; rw [← List.map_id (List.filter _ _)]
        rfl
      rw [List.nil_append, e3]
      exact q
theorem cal_exponents_at {P : Program} {w : World} {K : PySem.W.Frag} {mg : Str → Option Value} {base : Heap} {Z : Zc} (T : Txt P w K mg base Z) : Cal P w K mg base Z 4 "exponents_at" sp_exponents_at :=
  cal_of T.d_exponents_at sc_exponents_at imp_exponents_at fun f cdv A outer s H E hr => b_exponents_at T f cdv A outer s H E hr
end DL

namespace DL
open PySem PySem.Spec PyProof.Rows L2
/-! ### the least common multiple -/
theorem lcm_step {f n : Int} (hf : 1 ≤ f) (hn : 1 ≤ n) : f ∣ f * (n / (Nat.gcd f.natAbs n.natAbs : Nat)) ∧ n ∣ f * (n / (Nat.gcd f.natAbs n.natAbs : Nat)) ∧
    ∀ k, f ∣ k → n ∣ k → f * (n / (Nat.gcd f.natAbs n.natAbs : Nat)) ∣ k := by
  have hfn : f = (f.natAbs : Int) := by omega
  have hnn : n = (n.natAbs : Int) := by omega
  have e : f * (n / (Nat.gcd f.natAbs n.natAbs : Nat)) = ((Nat.lcm f.natAbs n.natAbs : Nat) : Int) := by
    rw [Nat.lcm, Nat.mul_div_assoc _ (Nat.gcd_dvd_right _ _)]
    rw [Int.natCast_mul, Int.natCast_ediv, ← hfn, ← hnn]
  rw [e]
  refine ⟨?_, ?_, fun k h1 h2 => ?_⟩
  · rw [hfn]; exact Int.natCast_dvd_natCast.mpr (Nat.dvd_lcm_left _ _)
  · rw [hnn]; exact Int.natCast_dvd_natCast.mpr (Nat.dvd_lcm_right _ _)
  · have h3 : f.natAbs ∣ k.natAbs := Int.natAbs_dvd_natAbs.mpr h1
    have h4 : n.natAbs ∣ k.natAbs := Int.natAbs_dvd_natAbs.mpr h2
    have h5 := Nat.lcm_dvd h3 h4
    exact Int.dvd_natAbs.mp (Int.natCast_dvd_natCast.mpr h5)
def lcmFold (ns : List Int) (f : Int) : Int := ns.foldl (fun f n => f * (n / (Nat.gcd f.natAbs n.natAbs : Nat))) f
theorem lcmFold_spec : ∀ (ns : List Int) (f : Int), 1 ≤ f → (∀ n ∈ ns, 1 ≤ n) → 1 ≤ lcmFold ns f ∧ f ∣ lcmFold ns f ∧ (∀ n ∈ ns, n ∣ lcmFold ns f) ∧ ∀ k, f ∣ k → (∀ n ∈ ns, n ∣ k) → lcmFold ns f ∣ k
  | [], f, hf, _ => ⟨hf, Int.dvd_refl _, (fun n h => by cases h), fun k h _ => h⟩
  | n :: ns, f, hf, hn => by
    have hn1 := hn n List.mem_cons_self
    obtain ⟨g1, g2, g3, g4⟩ := gcd_step hf hn1
    obtain ⟨l1, l2, l3⟩ := lcm_step hf hn1
    have hf' : 1 ≤ f * (n / (Nat.gcd f.natAbs n.natAbs : Nat)) := by
      have := Int.mul_le_mul hf g3 (by decide) (by omega); simpa using this
    obtain ⟨a, b, c, d⟩ := lcmFold_spec ns (f * (n / (Nat.gcd f.natAbs n.natAbs : Nat))) hf' fun m hm => hn m (List.mem_cons_of_mem _ hm)
    refine ⟨a, Int.dvd_trans l1 b, fun m hm => ?_, fun k h1 h2 => d k (l3 k h1 (h2 n List.mem_cons_self)) fun m hm => h2 m (List.mem_cons_of_mem _ hm)⟩
    rcases List.mem_cons.mp hm with rfl | hm
    · exact Int.dvd_trans l2 b
    · exact c m hm
theorem multI_pos {ns : List Int} (h : ∀ n ∈ ns, 1 ≤ n) : 1 ≤ multI ns := (lcmFold_spec ns 1 (by decide) h).1
theorem multI_dvd {ns : List Int} (h : ∀ n ∈ ns, 1 ≤ n) {n : Int} (hn : n ∈ ns) : n ∣ multI ns := (lcmFold_spec ns 1 (by decide) h).2.2.1 n hn
theorem multI_least {ns : List Int} (h : ∀ n ∈ ns, 1 ≤ n) {k : Int} (hk : ∀ n ∈ ns, n ∣ k) : multI ns ∣ k := (lcmFold_spec ns 1 (by decide) h).2.2.2 k (Int.one_dvd k) hk
/-! ### fractions over a common denominator -/
def gcdI (i C : Int) : Int := (Nat.gcd i.natAbs C.natAbs : Nat)
def lowP (i C : Int) : Int × Int := (i / gcdI i C, C / gcdI i C)
theorem gcdI_pos {i C : Int} (hC : 1 ≤ C) : 1 ≤ gcdI i C := gcd_pos_r (by omega)
theorem gcdI_dvd_l (i C : Int) : gcdI i C ∣ i := Int.dvd_natAbs.mp (Int.natCast_dvd_natCast.mpr (Nat.gcd_dvd_left _ _))
theorem gcdI_dvd_r (i C : Int) : gcdI i C ∣ C := Int.dvd_natAbs.mp (Int.natCast_dvd_natCast.mpr (Nat.gcd_dvd_right _ _))
theorem dvd_gcdI {k i C : Int} (h1 : k ∣ i) (h2 : k ∣ C) : k ∣ gcdI i C := by
  have := Nat.dvd_gcd (Int.natAbs_dvd_natAbs.mpr h1) (Int.natAbs_dvd_natAbs.mpr h2)
  exact Int.natAbs_dvd.mp (Int.natCast_dvd_natCast.mpr this)
theorem lowP_mul {i C : Int} (hC : 1 ≤ C) : (lowP i C).1 * gcdI i C = i ∧ (lowP i C).2 * gcdI i C = C ∧ 1 ≤ (lowP i C).2 := by
  have hg := gcdI_pos (i := i) hC
  have h1 := Int.ediv_mul_cancel (gcdI_dvd_l i C)
  have h2 := Int.ediv_mul_cancel (gcdI_dvd_r i C)
  refine ⟨h1, h2, ?_⟩
  have : 1 ≤ C / gcdI i C := Int.le_ediv_of_mul_le (by omega) (by have := Int.le_of_dvd (by omega) (gcdI_dvd_r i C); omega)
  exact this
/-- the step of a floor along the common denominators -/
theorem floor_step {m C i : Int} (hm : 1 ≤ m) (hC : 1 ≤ C) (hd : m ∣ C) : m * i / C = m * (i - 1) / C + if m % (lowP i C).2 = 0 then 1 else 0 := by
  obtain ⟨c, rfl⟩ := hd
  have hc : 1 ≤ c := by
    by_cases h : 1 ≤ c
    · exact h
    · have : m * c ≤ m * 0 := Int.mul_le_mul_of_nonneg_left (by omega) (by omega)
      omega
  rw [Int.mul_ediv_mul_of_pos _ _ (by omega), Int.mul_ediv_mul_of_pos _ _ (by omega)]
  obtain ⟨g1, g2, g3⟩ := lowP_mul (i := i) hC
  have key : (m % (lowP i (m * c)).2 = 0) ↔ c ∣ i := by
    constructor
    · intro h
      obtain ⟨u, hu⟩ := Int.dvd_of_emod_eq_zero h
      -- m = v u, v g = m c = v u c, so g = u c
      have e : (lowP i (m * c)).2 * gcdI i (m * c) = (lowP i (m * c)).2 * (u * c) := by
        rw [g2]
        conv => lhs; rw [hu]
        rw [Int.mul_assoc]
      have e2 := Int.eq_of_mul_eq_mul_left (by omega) e
      exact Int.dvd_trans ⟨u, by rw [e2, Int.mul_comm]⟩ (gcdI_dvd_l i (m * c))
    · intro h
      obtain ⟨u, hu⟩ := dvd_gcdI h (Int.dvd_mul_left m c)
      have e0 : (lowP i (m * c)).2 * (c * u) = m * c := by rw [← hu]; exact g2
      have e : c * ((lowP i (m * c)).2 * u) = c * m := by
        rw [Int.mul_left_comm, e0, Int.mul_comm]
      have e2 := Int.eq_of_mul_eq_mul_left (by omega) e
      exact Int.emod_eq_zero_of_dvd ⟨u, e2.symm⟩
  by_cases h : c ∣ i
  · rw [if_pos (key.mpr h)]
    obtain ⟨t, rfl⟩ := h
    rw [Int.mul_ediv_cancel_left _ (by omega)]
    have : (c * t - 1) / c = t - 1 := by
      rw [show c * t - 1 = (c - 1) + c * (t - 1) by rw [Int.mul_sub]; omega, Int.add_mul_ediv_left _ _ (by omega), Int.ediv_eq_zero_of_lt (by omega) (by omega)]
      omega
    omega
  · rw [if_neg fun z => h (key.mp z)]
    have h0 : i % c ≠ 0 := fun z => h (Int.dvd_of_emod_eq_zero z)
    have h1 := Int.emod_nonneg i (show c ≠ 0 by omega)
    have h2 := Int.emod_lt_of_pos i (show 0 < c by omega)
    have h3 := Int.mul_ediv_add_emod i c
    have : (i - 1) / c = i / c := by
      rw [show i - 1 = (i % c - 1) + c * (i / c) by omega, Int.add_mul_ediv_left _ _ (by omega), Int.ediv_eq_zero_of_lt (by omega) (by omega)]
      omega
    omega
/-- how many a number divides -/
def divs (ms : List Int) (d : Int) : Int := (ms.map fun m => if m % d = 0 then (1 : Int) else 0).sum
theorem floors_step {ms : List Int} {C i : Int} (hC : 1 ≤ C) (hm : ∀ m ∈ ms, 1 ≤ m ∧ m ∣ C) : floors ms i C = floors ms (i - 1) C + divs ms (lowP i C).2 := by
  induction ms with
  | nil => rfl
  | cons m ms ih =>
    have h := hm m List.mem_cons_self
    have ih := ih fun k hk => hm k (List.mem_cons_of_mem _ hk)
    have e := floor_step (i := i) h.1 hC h.2
    unfold floors divs at ih ⊢
    simp only [List.map_cons, List.sum_cons]
    rw [e, ih]
    omega
def depI (ts bs : List Int) (i : Int) : Int := floors ts i (multI (ts ++ bs)) - floors bs i (multI (ts ++ bs))
def jmp (ts bs : List Int) (d : Int) : Int := divs ts d - divs bs d
theorem dep_step {ts bs : List Int} (h : ∀ m ∈ ts ++ bs, 1 ≤ m) (i : Int) : depI ts bs i = depI ts bs (i - 1) + jmp ts bs (lowP i (multI (ts ++ bs))).2 := by
  have hC := multI_pos h
  have h1 := floors_step (ms := ts) (i := i) hC fun m hm => ⟨h m (List.mem_append_left _ hm), multI_dvd h (List.mem_append_left _ hm)⟩
  have h2 := floors_step (ms := bs) (i := i) hC fun m hm => ⟨h m (List.mem_append_right _ hm), multI_dvd h (List.mem_append_right _ hm)⟩
  unfold depI jmp
  omega
/-- the stairs, by their places over the common denominator -/
def stI (ts bs : List Int) : List Int := 0 :: (rngI 1 (multI (ts ++ bs) - 1).toNat).filter fun i => decide (depI ts bs i ≠ depI ts bs (i - 1))
def stairsL (ts bs : List Int) : List ((Int × Int) × Int) := (stI ts bs).map fun i => (lowP i (multI (ts ++ bs)), depI ts bs i)
def stairD (s : (Int × Int) × Int) : D := .tup [pairD s.1, .int s.2]
theorem floors_zero (ms : List Int) (C : Int) : floors ms 0 C = 0 := by
  unfold floors
  induction ms with
  | nil => rfl
  | cons m ms ih =>
    rw [List.map_cons, List.sum_cons, ih, Int.mul_zero, Int.zero_ediv]; rfl
theorem dep_zero (ts bs : List Int) : depI ts bs 0 = 0 := by unfold depI; rw [floors_zero, floors_zero]; rfl
theorem lowP_zero {C : Int} (hC : 1 ≤ C) : lowP 0 C = (0, 1) := by
  have : gcdI 0 C = C := by unfold gcdI; simp; omega
  unfold lowP
  rw [this, Int.zero_ediv, Int.ediv_self (by omega)]
end DL

namespace DL
open PySem PySem.Spec PyProof.Rows L2
/-! ### stairs of a row, by the program -/
def Good (ts bs : List Int) : Prop := Small ts bs ∧ multI (ts ++ bs) ≤ 2520
theorem Good.pos {ts bs : List Int} (h : Good ts bs) : ∀ m ∈ ts ++ bs, 1 ≤ m := fun m hm => (h.1.1 m hm).1
theorem Good.C1 {ts bs : List Int} (h : Good ts bs) : 1 ≤ multI (ts ++ bs) := multI_pos h.pos
section
variable {P : Program} {w : World} {K : PySem.W.Frag} {mg : Str → Option Value} {base : Heap} {Z : Zc}
/-! ### jump_in -/
def N_jump_in : List Str := ["row", "number", "here", "member"]
theorem sc_jump_in : FnScope N_jump_in ["row", "number"] (defScope (topAt 46)) := ⟨rfl, rfl, rfl, by decide +kernel, rfl, by decide +kernel, by decide +kernel⟩
def wb_jump_in : WS := (wSeq (wSet 2 (wCall aSum (wCons (wLc (wIT (wTops (wVar 0))) (gN 3) wYes (wCall aInt (wCons (wOp (aEq false) (wOp aMod (wVar 3) (wVar 1)) (wC (.int 0))) wNil)) [3]) wNil))) (wRet (wOp aSub (wVar 2) (wCall aSum (wCons (wLc (wIT (wBots (wVar 0))) (gN 3) wYes (wCall aInt (wCons (wOp (aEq false) (wOp aMod (wVar 3) (wVar 1)) (wC (.int 0))) wNil)) [3]) wNil)))))
theorem b_jump_in (T : Txt P w K mg base Z) (f : Addr) (cdv : Value) (A : Around) (outer : List Env) (s : Shared) (H : Hp) (E : XK) (hr : Room 0 (A.deeper (envOfC "jump_in" (defScope (topAt 46)) s.heap.objs.size f cdv))) :
    PSs (cxOf CX0 P w K mg base N_jump_in "jump_in" (defScope (topAt 46)) f cdv A outer s H E).nox (defBody (topAt 46)) (tS Z wb_jump_in) :=
  (pds_cons (pd_set (i := 2) sc_jump_in.nd rfl (.inl rfl) (pd_callB (cd_sum T.z.k) (sum_any rfl) rfl T.h_sum boot_sum (pd_consV (pe_nv (pd_lc (own := [("member", 3)]) (is := [3]) rfl sc_jump_in.nd (pd_it T.z.k (pd_tops T.z (pd_var (i := 0) rfl (.inl rfl)))) (blkOk_by (N := N_jump_in) (sc := defScope (topAt 46)) (by decide +kernel)) (fun _ _ _ _ _ => (pd_gn (i := 3) (is := [3]) (by decide) sc_jump_in.nd rfl (.inl rfl))) (fun _ _ _ _ _ => pd_yes) (fun _ _ _ _ _ => (pd_callTy cd_int call_int1 rfl T.h_int boot_int (pd_consV (pe_vw (pd_cmp (op_eqD hr.units) (od_eq T.z.k) (pe_vw (pd_op op_mod od_mod (pe_vw (pd_var (i := 3) rfl (.inl rfl))) (pe_vw (pd_var (i := 1) rfl (.inr (.inl rfl)))))) (pe_vw pd_int))) pd_nil))) (by decide))) pd_nil)))
    (pds_one (pd_ret (pd_op op_sub od_sub (pe_vw (pd_var (i := 2) rfl (.inl rfl))) (pe_vw (pd_callB (cd_sum T.z.k) (sum_any rfl) rfl T.h_sum boot_sum (pd_consV (pe_nv (pd_lc (own := [("member", 3)]) (is := [3]) rfl sc_jump_in.nd (pd_it T.z.k (pd_bots T.z (pd_var (i := 0) rfl (.inl rfl)))) (blkOk_by (N := N_jump_in) (sc := defScope (topAt 46)) (by decide +kernel)) (fun _ _ _ _ _ => (pd_gn (i := 3) (is := [3]) (by decide) sc_jump_in.nd rfl (.inl rfl))) (fun _ _ _ _ _ => pd_yes) (fun _ _ _ _ _ => (pd_callTy cd_int call_int1 rfl T.h_int boot_int (pd_consV (pe_vw (pd_cmp (op_eqD hr.units) (od_eq T.z.k) (pe_vw (pd_op op_mod od_mod (pe_vw (pd_var (i := 3) rfl (.inl rfl))) (pe_vw (pd_var (i := 1) rfl (.inr (.inl rfl)))))) (pe_vw pd_int))) pd_nil))) (by decide))) pd_nil)))))))
end
def sp_jump_in : WL := fun ds Q => ∃ (ts bs : List Int) (d : Int), ds = [.row ts bs, .int d] ∧ Small ts bs ∧ 1 ≤ d ∧ Q (.int (jmp ts bs d))
theorem divs_lc {d : Int} {env : En} {ms : List Int} {K : D → Prop} (h1 : env[1]? = some (.val (.int d))) (h3 : 3 < env.length) (hd : 1 ≤ d) (hl : ms.length ≤ 8) (k : K (.int (divs ms d))) :
    lcD (gN 3) wYes (wCall aInt (wCons (wOp (aEq false) (wOp aMod (wVar 3) (wVar 1)) (wC (.int 0))) wNil)) env (fun acc => aSum [.lst acc] K) (ms.map D.int) [] := by
  refine lc_map D.int (fun m => .int (if m % d = 0 then 1 else 0)) ms (fun m hm' K1 k1 => ?_) (by have := size_big; omega) ?_
  · have e2 : (env.set 3 (.val (.int m)))[1]? = some (.val (.int d)) := by rw [List.getElem?_set_ne (by decide)]; exact h1
    have e6 : (env.set 3 (.val (.int m)))[3]? = some (.val (.int m)) := List.getElem?_set_self h3
    show wCall aInt (wCons (wOp (aEq false) (wOp aMod (wVar 3) (wVar 1)) (wC (.int 0))) wNil) (env.set 3 (.val (.int m))) K1
    refine ⟨_, e6, _, e2, by omega, cmp_int _, cmp_int _, ?_⟩
    rw [if_neg (by decide), eqv_int]
    show aInt [.bl (decide (m % d = 0))] K1
    rw [aInt_eqb]
    by_cases e : m % d = 0
    · simpa [e] using k1
    · simpa [e] using k1
  · have e : ms.map (fun m => D.int (if m % d = 0 then 1 else 0)) = (ms.map fun m => if m % d = 0 then (1 : Int) else 0).map D.int := by rw [List.map_map]; rfl
    rw [e]
    exact aOver_l _ _ _ k
theorem imp_jump_in : ∀ ds Q, sp_jump_in ds Q → ds.length = 2 ∧ wFn N_jump_in wb_jump_in ds Q := by
  rintro ds Q ⟨ts, bs, d, rfl, h, hd, q⟩
  refine ⟨rfl, ?_⟩
  simp [wb_jump_in, N_jump_in, -aOver, -lcD]
  refine divs_lc (d := d) rfl (by simp) hd h.2.1 ?_
  refine divs_lc (d := d) rfl (by simp) hd h.2.2.1 ?_
  simpa [jmp] using q
theorem cal_jump_in {P : Program} {w : World} {K : PySem.W.Frag} {mg : Str → Option Value} {base : Heap} {Z : Zc} (T : Txt P w K mg base Z) : Cal P w K mg base Z 1 "jump_in" sp_jump_in :=
  cal_of T.d_jump_in sc_jump_in imp_jump_in fun f cdv A outer s H E hr => b_jump_in T f cdv A outer s H E hr
theorem low_pair (a b : Int) : D.tup ((lowI a b).map D.int) = pairD (lowP a b) := rfl
section
variable {P : Program} {w : World} {K : PySem.W.Frag} {mg : Str → Option Value} {base : Heap} {Z : Zc}
/-! ### places_over -/
def N_places_over : List Str := ["common", "number", "step", "index"]
theorem sc_places_over : FnScope N_places_over ["common", "number"] (defScope (topAt 47)) := ⟨rfl, rfl, rfl, by decide +kernel, rfl, by decide +kernel, by decide +kernel⟩
def wb_places_over : WS := (wSeq (wSet 2 (wOp aDiv (wVar 0) (wVar 1))) (wRet (wLc (wIR3 (wCons (wC (.int 0)) (wCons (wVar 0) (wCons (wVar 2) wNil)))) (gN 3) (wTest (wOp (aEq false) (wOp aIx (wCall sp_lowest_of (wCons (wVar 3) (wCons (wVar 0) wNil))) (wC (.int 1))) (wVar 1))) (wVar 3) [3])))
theorem b_places_over (T : Txt P w K mg base Z) (f : Addr) (cdv : Value) (A : Around) (outer : List Env) (s : Shared) (H : Hp) (E : XK) (hr : Room 1 (A.deeper (envOfC "places_over" (defScope (topAt 47)) s.heap.objs.size f cdv))) :
    PSs (cxOf CX0 P w K mg base N_places_over "places_over" (defScope (topAt 47)) f cdv A outer s H E).nox (defBody (topAt 47)) (tS Z wb_places_over) :=
  (pds_cons (pd_set (i := 2) sc_places_over.nd rfl (.inl rfl) (pd_op op_fdivW od_div (pe_vw (pd_var (i := 0) rfl (.inr (.inl rfl)))) (pe_vw (pd_var (i := 1) rfl (.inr (.inl rfl))))))
    (pds_one (pd_ret (pe_frz (pd_lc (own := [("index", 3)]) (is := [3]) rfl sc_places_over.nd (pd_ir3 rfl T.h_range (pd_consV (pe_vw pd_int) (pd_consV (pe_vw (pd_var (i := 0) rfl (.inr (.inl rfl)))) (pd_consV (pe_vw (pd_var (i := 2) rfl (.inl rfl))) pd_nil)))) (blkOk_by (N := N_places_over) (sc := defScope (topAt 47)) (by decide +kernel)) (fun _ _ _ _ _ => (pd_gn (i := 3) (is := [3]) (by decide) sc_places_over.nd rfl (.inl rfl))) (fun _ _ _ _ _ => (pd_if1 (pt_cmpD (op_eqD hr.units) (od_eq T.z.k) (pe_vw (pd_ix T.z.k (pe_vw (pd_call (cal_lowest_of T) hr (by decide) rfl (pd_cons (pd_var (i := 3) rfl (.inl rfl)) (pd_cons (pd_var (i := 0) rfl (.inr (.inl rfl))) pd_nil)))) (pe_vw pd_int))) (pe_vw (pd_var (i := 1) rfl (.inr (.inl rfl))))))) (fun _ _ _ _ _ => (pd_var (i := 3) rfl (.inl rfl))) (by decide))))))
end
def sp_places_over : WL := fun ds Q => ∃ C d : Int, ds = [.int C, .int d] ∧ 1 ≤ C ∧ C ≤ 2520 ∧ 1 ≤ d ∧ d ∣ C ∧ ∀ is : List Int, is.length ≤ 2520 → (∀ i, i ∈ is ↔ (0 ≤ i ∧ i < C ∧ (lowP i C).2 = d)) → Q (.lst (is.map D.int))
def rngCI (lo c : Int) (n : Nat) : List Int := (List.range n).map fun (i : Nat) => lo + (i : Nat) * c
theorem rngC_eq (lo c : Int) (n : Nat) : rngC lo c n = (rngCI lo c n).map D.int := by unfold rngC rngCI; rw [List.map_map]; rfl
theorem imp_places_over : ∀ ds Q, sp_places_over ds Q → ds.length = 2 ∧ wFn N_places_over wb_places_over ds Q := by
  rintro ds Q ⟨C, d, rfl, hC, hC2, hd, hdvd, q⟩
  refine ⟨rfl, ?_⟩
  have hdC : d ≤ C := Int.le_of_dvd (by omega) hdvd
  have c1 : CDivW C d := divW_of (b := 20) (by omega) (by omega)
  have e1 : d * (C / d) = C := Int.mul_ediv_cancel' hdvd
  have hst : 1 ≤ C / d := Int.le_ediv_of_mul_le (by omega) (by omega)
  have hst2 : C / d ≤ C := Int.ediv_le_self _ (by omega)
  simp [wb_places_over, N_places_over, c1, -lcD, -aIx]
  refine ⟨_, rgC_pos hst (by omega) (by omega) (by omega) (by omega) (by omega), ?_⟩
  have hsz : (Builtin.Range.rangeSize 0 C (C / d)).toNat ≤ 2520 := by
    have := rangeSize_toNat_le 0 C (C / d)
    omega
  rw [rngC_eq]
  refine lc_pure D.int (fun i => decide ((lowP i C).2 = d)) D.int (rngCI 0 (C / d) (Builtin.Range.rangeSize 0 C (C / d)).toNat) [] (fun i hi K1 K0 k1 k0 => ?_) ?_ ?_
  · simp [-aIx]
    refine ⟨i, C, rfl, by omega, ?_, ?_⟩
    · exact Nat.lt_of_lt_of_le (show C.natAbs < 2 ^ 20 by omega) (Nat.pow_le_pow_right (by decide) (by decide))
    · rw [low_pair]
      refine ⟨_, 1, .int (lowP i C).2, rfl, rfl, atI1 _ _ _, ?_⟩
      simp
      by_cases e : (lowP i C).2 = d
      · simpa [e] using k1 (by simpa using e)
      · simpa [e] using k0 (by simpa using e)
  · have := size_big
    simp [rngCI]
    omega
  · refine q _ ?_ fun i => ?_
    · have h1 := List.length_filter_le (fun i => decide ((lowP i C).2 = d)) (rngCI 0 (C / d) (Builtin.Range.rangeSize 0 C (C / d)).toNat)
      have h2 : (rngCI 0 (C / d) (Builtin.Range.rangeSize 0 C (C / d)).toNat).length = (Builtin.Range.rangeSize 0 C (C / d)).toNat := by unfold rngCI; simp
      omega
    · rw [List.mem_filter, decide_eq_true_eq]
      unfold rngCI
      rw [List.mem_map]
      have hrs : Builtin.Range.rangeSize 0 C (C / d) = (C - 0 - 1) / (C / d) + 1 := by
        unfold Builtin.Range.rangeSize
        rw [if_pos (by omega), if_pos (by omega)]
      have hq0 : 0 ≤ (C - 0 - 1) / (C / d) := Int.ediv_nonneg (by omega) (by omega)
      constructor
      · rintro ⟨⟨k, hk, rfl⟩, e⟩
        have hk := List.mem_range.mp hk
        have h0 : (0 : Int) ≤ k * (C / d) := Int.mul_nonneg (by omega) (by omega)
        have h1 : (k : Int) * (C / d) ≤ (C - 0 - 1) / (C / d) * (C / d) := Int.mul_le_mul_of_nonneg_right (by omega) (by omega)
        have h2 := Int.ediv_mul_le (C - 0 - 1) (show C / d ≠ 0 by omega)
        exact ⟨by omega, by omega, e⟩
      · rintro ⟨h0, h1, e⟩
        refine ⟨?_, e⟩
        obtain ⟨g1, g2, g3⟩ := lowP_mul (i := i) hC
        rw [e] at g2
        have hg : gcdI i C = C / d := Int.eq_of_mul_eq_mul_left (show d ≠ 0 by omega) (by rw [g2, e1])
        rw [hg] at g1
        have hu : 0 ≤ (lowP i C).1 := Int.ediv_nonneg h0 (by have := gcdI_pos (i := i) hC; omega)
        refine ⟨(lowP i C).1.toNat, List.mem_range.mpr ?_, by rw [Int.toNat_of_nonneg hu]; omega⟩
        have h3 : (lowP i C).1 ≤ (C - 0 - 1) / (C / d) := Int.le_ediv_of_mul_le (by omega) (by omega)
        omega
theorem cal_places_over {P : Program} {w : World} {K : PySem.W.Frag} {mg : Str → Option Value} {base : Heap} {Z : Zc} (T : Txt P w K mg base Z) : Cal P w K mg base Z 2 "places_over" sp_places_over :=
  cal_of T.d_places_over sc_places_over imp_places_over fun f cdv A outer s H E hr => b_places_over T f cdv A outer s H E hr
end DL

namespace DL
open PySem PySem.Spec PyProof.Rows L2
/-! ### lists -/
theorem sorted_ext : ∀ {xs ys : List Int}, xs.Pairwise (· < ·) → ys.Pairwise (· < ·) → (∀ x, x ∈ xs ↔ x ∈ ys) → xs = ys
  | [], [], _, _, _ => rfl
  | [], y :: ys, _, _, h => absurd ((h y).mpr List.mem_cons_self) (by simp)
  | x :: xs, [], _, _, h => absurd ((h x).mp List.mem_cons_self) (by simp)
  | x :: xs, y :: ys, h1, h2, h => by
    obtain ⟨a1, a2⟩ := List.pairwise_cons.mp h1
    obtain ⟨b1, b2⟩ := List.pairwise_cons.mp h2
    have e : x = y := by
      rcases List.mem_cons.mp ((h x).mp List.mem_cons_self) with e | hx
      · exact e
      · rcases List.mem_cons.mp ((h y).mpr List.mem_cons_self) with e | hy
        · exact e.symm
        · have := b1 x hx
          have := a1 y hy
          omega
    subst e
    rw [sorted_ext a2 b2 fun z => ?_]
    constructor
    · intro hz
      rcases List.mem_cons.mp ((h z).mp (List.mem_cons_of_mem _ hz)) with e | hz'
      · have := a1 z hz; omega
      · exact hz'
    · intro hz
      rcases List.mem_cons.mp ((h z).mpr (List.mem_cons_of_mem _ hz)) with e | hz'
      · have := b1 z hz; omega
      · exact hz'
theorem strict_of {xs : List Int} (h : xs.Pairwise (· ≤ ·)) (nd : xs.Nodup) : xs.Pairwise (· < ·) := by
  have := List.Pairwise.and h nd
  exact this.imp fun ⟨a, b⟩ => by omega
theorem rngI_sorted (lo : Int) (n : Nat) : (rngI lo n).Pairwise (· < ·) := by
  unfold rngI
  refine List.Pairwise.map _ (fun a b (h : a < b) => ?_) List.pairwise_lt_range
  omega
/-! ### dicts -/
theorem keys_put {kvs : List (Int × Int)} {k v i : Int} : i ∈ (putI kvs k v).map (·.1) ↔ i = k ∨ i ∈ kvs.map (·.1) := by
  unfold putI
  by_cases h : (kvs.any fun p => decide (p.1 = k)) = true
  · rw [if_pos h]
    have e : (kvs.map fun p => if p.1 = k then (p.1, v) else p).map (·.1) = kvs.map (·.1) := by
      rw [List.map_map]
      apply List.map_congr_left
      intro p _
      simp only [Function.comp]
      split <;> rfl
    rw [e]
    constructor
    · exact .inr
    · rintro (rfl | h2)
      · obtain ⟨p, hp, e⟩ := List.any_eq_true.mp h
        exact List.mem_map.mpr ⟨p, hp, of_decide_eq_true e⟩
      · exact h2
  · rw [if_neg h, List.map_append, List.mem_append]
    simp only [List.map_cons, List.map_nil, List.mem_singleton]
    exact or_comm
theorem get_put {k v i : Int} : ∀ (kvs : List (Int × Int)), getI (putI kvs k v) i = if i = k then some v else getI kvs i := by
  have hmap : ∀ kvs : List (Int × Int), getI (kvs.map fun p => if p.1 = k then (p.1, v) else p) i = if i = k then (if (kvs.any fun p => decide (p.1 = k)) = true then some v else none) else getI kvs i := by
    intro kvs
    induction kvs with
    | nil => by_cases h : i = k <;> simp [getI, h]
    | cons p r ih =>
      obtain ⟨a, b⟩ := p
      unfold getI at ih ⊢
      simp only [List.map_cons, List.find?_cons, List.any_cons]
      by_cases h1 : a = k
      · subst h1
        by_cases h2 : i = a
        · subst h2; simp
        · have : ¬ a = i := fun z => h2 z.symm
          simp only [if_true, this, decide_false, h2, if_false] at ih ⊢
          exact ih
      · by_cases h2 : a = i
        · subst h2
          simp [h1]
        · simp only [h1, if_false, h2, decide_false, Bool.false_or]
          exact ih
  intro kvs
  unfold putI
  by_cases h : (kvs.any fun p => decide (p.1 = k)) = true
  · rw [if_pos h, hmap]
    simp [h]
  · rw [if_neg h]
    have hn : getI kvs k = none := getI_none (Bool.eq_false_iff.mpr h)
    unfold getI at hn ⊢
    rw [List.find?_append]
    by_cases e : i = k
    · subst e
      rw [Option.map_eq_none_iff] at hn
      rw [hn]; simp
    · rw [if_neg e]
      have : List.find? (fun p : Int × Int => decide (p.1 = i)) [(k, v)] = none := by
        simp; exact fun z => e z.symm
      rw [this, Option.or_none]
/-! ### the jumps -/
structure DicI (ts bs : List Int) (kvs : List (Int × Int)) (m : Int) (seen : Int → Prop) : Prop where
  nd : (kvs.map (·.1)).Nodup
  ks : ∀ i, i ∈ kvs.map (·.1) ↔ (0 ≤ i ∧ i < multI (ts ++ bs) ∧ 2 ≤ (lowP i (multI (ts ++ bs))).2 ∧ (lowP i (multI (ts ++ bs))).2 < m ∧ jmp ts bs (lowP i (multI (ts ++ bs))).2 ≠ 0) ∨ seen i
  vs : ∀ i ∈ kvs.map (·.1), getI kvs i = some (jmp ts bs (lowP i (multI (ts ++ bs))).2)
theorem put_loop {ts bs : List Int} (E : EndsD) (v0 v1 v3 s6 s7 : Sl) (m : Int) : ∀ (is : List Int) (kvs : List (Int × Int)) (seen : Int → Prop) (s5 : Sl), kvs.length + is.length ≤ 1000000 → (∀ i ∈ is, (lowP i (multI (ts ++ bs))).2 = m) → DicI ts bs kvs m seen →
    (∀ kvs' s5, kvs'.length ≤ kvs.length + is.length → DicI ts bs kvs' m (fun i => seen i ∨ i ∈ is) → E.nx [v0, v1, .own (.dic kvs'), v3, .val (.int (jmp ts bs m)), s5, s6, s7]) →
    forD (gN 5) (wPutD 2 (wVar 4) (wVar 5)) E (is.map D.int) [v0, v1, .own (.dic kvs), v3, .val (.int (jmp ts bs m)), s5, s6, s7]
  | [], kvs, seen, s5, _, _, I, q => q kvs s5 (by simp) ⟨I.nd, fun i => by rw [I.ks i]; simp, I.vs⟩
  | i :: is, kvs, seen, s5, hl, hm, I, q => by
    have hl' : kvs.length + (is.length + 1) ≤ 1000000 := hl
    obtain ⟨k1, k2⟩ := put_keys (v := jmp ts bs m) (k := i) I.nd
    have hi := hm i List.mem_cons_self
    have I2 : DicI ts bs (putI kvs i (jmp ts bs m)) m (fun j => seen j ∨ j = i) := by
      refine ⟨k1, fun j => ?_, fun j hj => ?_⟩
      · rw [keys_put, I.ks j]
        constructor
        · rintro (h | h | h)
          · exact .inr (.inr h)
          · exact .inl h
          · exact .inr (.inl h)
        · rintro (h | h | h)
          · exact .inr (.inl h)
          · exact .inr (.inr h)
          · exact .inl h
      · rw [get_put]
        by_cases e : j = i
        · rw [if_pos e, e, hi]
        · rw [if_neg e]
          rcases keys_put.mp hj with h | h
          · exact absurd h e
          · exact I.vs j h
    have := put_loop E v0 v1 v3 s6 s7 m is (putI kvs i (jmp ts bs m)) _ (.val (.int i)) (by omega) (fun j hj => hm j (List.mem_cons_of_mem _ hj)) I2 fun kvs' s5 h1 h2 => q kvs' s5 (by simp only [List.length_cons]; omega) ⟨h2.nd, fun j => by rw [h2.ks j, List.mem_cons, or_assoc], h2.vs⟩
    have hz : kvs.length < sizeLine := by have := size_big; omega
    rw [List.map_cons, forD]
    simpa [hz, -forD] using this
theorem divs_zero {ms : List Int} {d : Int} (h : ∀ m ∈ ms, ¬ d ∣ m) : divs ms d = 0 := by
  unfold divs
  induction ms with
  | nil => rfl
  | cons m ms ih =>
    rw [List.map_cons, List.sum_cons, ih fun k hk => h k (List.mem_cons_of_mem _ hk), if_neg fun z => h m List.mem_cons_self (Int.dvd_of_emod_eq_zero z)]
    rfl
theorem jmp_dvd {ts bs : List Int} {d : Int} (h : jmp ts bs d ≠ 0) : ∃ m ∈ ts ++ bs, d ∣ m := by
  by_cases e : ∃ m ∈ ts ++ bs, d ∣ m
  · exact e
  · refine absurd ?_ h
    unfold jmp
    rw [divs_zero fun m hm z => e ⟨m, List.mem_append_left _ hm, z⟩, divs_zero fun m hm z => e ⟨m, List.mem_append_right _ hm, z⟩]; rfl
theorem jump_loop {ts bs : List Int} (h : Good ts bs) (E : EndsD) (s6 s7 : Sl) : ∀ (k : Nat) (m : Int) (kvs : List (Int × Int)) (s3 s4 s5 : Sl), 2 ≤ m → m + k = maxL (ts ++ bs) + 1 → (kvs.length : Int) ≤ 2520 * m → DicI ts bs kvs m (fun _ => False) →
    (∀ kvs s3 s4 s5, DicI ts bs kvs (maxL (ts ++ bs) + 1) (fun _ => False) → E.nx [.val (.row ts bs), .val (.int (multI (ts ++ bs))), .own (.dic kvs), s3, s4, s5, s6, s7]) →
    forD (gN 3) (wSeq (wSet 4 (wCall sp_jump_in (wCons (wVar 0) (wCons (wVar 3) wNil)))) (wIf (wTest (wOp (aEq true) (wVar 4) (wC (.int 0)))) (wFor (wIL (wCall sp_places_over (wCons (wVar 1) (wCons (wVar 3) wNil)))) (gN 5) (wPutD 2 (wVar 4) (wVar 5))) wNext)) E
      (rngD m k) [.val (.row ts bs), .val (.int (multI (ts ++ bs))), .own (.dic kvs), s3, s4, s5, s6, s7]
  | 0, m, kvs, s3, s4, s5, h2, he, hl, I, q => by
    have e : m = maxL (ts ++ bs) + 1 := by omega
    subst e
    exact q kvs s3 s4 s5 I
  | k + 1, m, kvs, s3, s4, s5, h2, he, hl, I, q => by
    have hm60 := (h.1.1 _ (maxL_mem h.1.2.2.2)).2
    rw [rngD_succ, forD]
    simp [-forD]
    refine ⟨ts, bs, m, rfl, h.1, by omega, ?_⟩
    by_cases e : jmp ts bs m = 0
    · simp [e, -forD]
      have := jump_loop h E s6 s7 k (m + 1) kvs (.val (.int m)) (.val (.int 0)) s5 (by omega) (by omega) (by omega) ⟨I.nd, fun i => by
        rw [I.ks i]
        constructor
        · rintro (⟨a, b, c, d, f⟩ | z)
          · exact .inl ⟨a, b, c, by omega, f⟩
          · exact z.elim
        · rintro (⟨a, b, c, d, f⟩ | z)
          · by_cases e2 : (lowP i (multI (ts ++ bs))).2 = m
            · rw [e2] at f; exact absurd e f
            · exact .inl ⟨a, b, c, by omega, f⟩
          · exact z.elim, I.vs⟩ q
      exact this
    · simp [e, -forD]
      obtain ⟨mm, hmm, hd⟩ := jmp_dvd e
      refine ⟨_, m, rfl, h.C1, h.2, by omega, Int.dvd_trans hd (multI_dvd h.pos hmm), fun is hil his => ⟨_, rfl, ?_⟩⟩
      refine put_loop _ _ _ _ s6 s7 m is kvs (fun _ => False) s5 (by omega) (fun i hi => ((his i).mp hi).2.2) I fun kvs' s5' hl' I' => ?_
      refine jump_loop h E s6 s7 k (m + 1) kvs' (.val (.int m)) (.val (.int (jmp ts bs m))) s5' (by omega) (by omega) (by omega) ⟨I'.nd, fun i => ?_, I'.vs⟩ q
      rw [I'.ks i]
      constructor
      · rintro (⟨a, b, c, d, f⟩ | z | z)
        · exact .inl ⟨a, b, c, by omega, f⟩
        · exact z.elim
        · obtain ⟨a, b, c⟩ := (his i).mp z
          exact .inl ⟨a, b, by omega, by omega, by rw [c]; exact e⟩
      · rintro (⟨a, b, c, d, f⟩ | z)
        · by_cases e2 : (lowP i (multI (ts ++ bs))).2 = m
          · exact .inr (.inr ((his i).mpr ⟨a, b, e2⟩))
          · exact .inl ⟨a, b, c, by omega, f⟩
        · exact z.elim
end DL

namespace DL
open PySem PySem.Spec PyProof.Rows L2
section
variable {P : Program} {w : World} {K : PySem.W.Frag} {mg : Str → Option Value} {base : Heap} {Z : Zc}
/-! ### stairs_in -/
def N_stairs_in : List Str := ["row", "common", "jumps", "number", "jump", "index", "found", "here"]
theorem sc_stairs_in : FnScope N_stairs_in ["row"] (defScope (topAt 48)) := ⟨rfl, rfl, rfl, by decide +kernel, rfl, by decide +kernel, by decide +kernel⟩
def wb_stairs_in : WS := (wSeq (wPar2 1 2 .frz .new (wProp sp_common (wVar 0)) (wC (.dic []))) (wSeq (wFor (wIR2 (wCons (wC (.int 2)) (wCons (wOp aAdd (wProp sp_greatest (wVar 0)) (wC (.int 1))) wNil))) (gN 3) (wSeq (wSet 4 (wCall sp_jump_in (wCons (wVar 0) (wCons (wVar 3) wNil)))) (wIf (wTest (wOp (aEq true) (wVar 4) (wC (.int 0)))) (wFor (wIL (wCall sp_places_over (wCons (wVar 1) (wCons (wVar 3) wNil)))) (gN 5) (wPutD 2 (wVar 4) (wVar 5))) wNext))) (wSeq (wPar2 6 7 .new .frz (wLst (wCons (wTup (wCons (wC (.tup [.int 0, .int 1])) (wCons (wC (.int 0)) wNil))) wNil)) (wC (.int 0))) (wSeq (wFor (wIL (wSortDic (wOwn 2))) (gN 5) (wSeq (wAug 7 aAdd (wOp aDix (wOwn 2) (wVar 5))) (wApp 6 (wTup (wCons (wCall sp_lowest_of (wCons (wVar 5) (wCons (wVar 1) wNil))) (wCons (wVar 7) wNil)))))) (wRetOwn 6)))))
theorem b_stairs_in (T : Txt P w K mg base Z) (f : Addr) (cdv : Value) (A : Around) (outer : List Env) (s : Shared) (H : Hp) (E : XK) (hr : Room 3 (A.deeper (envOfC "stairs_in" (defScope (topAt 48)) s.heap.objs.size f cdv))) :
    PSs (cxOf CX0 P w K mg base N_stairs_in "stairs_in" (defScope (topAt 48)) f cdv A outer s H E).nox (defBody (topAt 48)) (tS Z wb_stairs_in) :=
  (pds_cons (pd_par2 (i := 1) (j := 2) (k1 := .frz) (k2 := .new) (by decide) (by decide) rfl sc_stairs_in.nd rfl rfl (by decide) rfl rfl (pd_prop T.z (at_common T) hr (by decide) (pd_var (i := 0) rfl (.inl rfl))) pd_dnew (by rfl))
    (pds_cons (pd_for (pd_ir2 rfl T.h_range (pd_consV (pe_vw pd_int) (pd_consV (pe_vw (pd_op op_add od_add (pe_vw (pd_prop T.z (at_greatest T) hr (by decide) (pd_var (i := 0) rfl (.inl rfl)))) (pe_vw pd_int))) pd_nil))) (pd_gn (i := 3) (is := [3]) (by decide) sc_stairs_in.nd rfl (.inl rfl)) (pds_cons (pd_set (i := 4) sc_stairs_in.nd rfl (.inl rfl) (pd_call (cal_jump_in T) hr (by decide) rfl (pd_cons (pd_var (i := 0) rfl (.inl rfl)) (pd_cons (pd_var (i := 3) rfl (.inl rfl)) pd_nil))))
    (pds_one (pd_if (pt_cmpD (op_neD hr.units) (od_ne T.z.k) (pe_vw (pd_var (i := 4) rfl (.inl rfl))) (pe_vw pd_int)) (pds_one (pd_for (pd_il (pd_call (cal_places_over T) hr (by decide) rfl (pd_cons (pd_var (i := 1) rfl (.inl rfl)) (pd_cons (pd_var (i := 3) rfl (.inl rfl)) pd_nil)))) (pd_gn (i := 5) (is := [5]) (by decide) sc_stairs_in.nd rfl (.inl rfl)) (pds_one (pd_putD (j := 2) (hu_of hr) rfl (.inl rfl) (pe_vw (pd_var (i := 5) rfl (.inl rfl))) (pd_var (i := 4) rfl (.inl rfl)))) PassesOwn.never rfl)) pds_nil))) PassesOwn.never rfl)
    (pds_cons (pd_par2 (i := 6) (j := 7) (k1 := .new) (k2 := .frz) (by decide) (by decide) rfl sc_stairs_in.nd rfl rfl (by decide) rfl rfl (pd_lst (pd_cons (pd_tup (pd_cons (pd_globT T.c_START rfl) (pd_cons pd_int pd_nil))) pd_nil)) pd_int (by rfl))
    (pds_cons (pd_for (pd_il (pe_frz (pd_sortDic rfl rfl T.h_sorted (pd_own (i := 2) rfl (.inl rfl))))) (pd_gn (i := 5) (is := [5]) (by decide) sc_stairs_in.nd rfl (.inl rfl)) (pds_cons (pd_aug (i := 7) sc_stairs_in.nd rfl (.inl rfl) (pe_vw (pd_dix (hu_of hr) (pd_own (i := 2) rfl (.inl rfl)) (pe_vw (pd_var (i := 5) rfl (.inl rfl))))) iop_add od_add)
    (pds_one (pd_app (j := 6) rfl (.inl rfl) (pd_tup (pd_cons (pd_call (cal_lowest_of T) hr (by decide) rfl (pd_cons (pd_var (i := 5) rfl (.inl rfl)) (pd_cons (pd_var (i := 1) rfl (.inl rfl)) pd_nil))) (pd_cons (pd_var (i := 7) rfl (.inl rfl)) pd_nil)))))) PassesOwn.never rfl)
    (pds_one (pd_retOwn (i := 6) rfl (.inl rfl)))))))
end
def sp_stairs_in : WL := fun ds Q => ∃ ts bs, ds = [.row ts bs] ∧ Good ts bs ∧ Q (.lst ((stairsL ts bs).map stairD))
/-- the places where the depth changes, behind a -/
def chg (ts bs : List Int) (a : Int) (k : Nat) : List Int := (rngI a k).filter fun i => decide (depI ts bs i ≠ depI ts bs (i - 1))
theorem chg_succ (ts bs : List Int) (a : Int) (k : Nat) : chg ts bs a (k + 1) = if depI ts bs a ≠ depI ts bs (a - 1) then a :: chg ts bs (a + 1) k else chg ts bs (a + 1) k := by
  unfold chg
  rw [rngI_succ, List.filter_cons]
  by_cases h : depI ts bs a ≠ depI ts bs (a - 1)
  · rw [if_pos h, if_pos (by simpa using h)]
  · rw [if_neg h, if_neg (by simpa using h)]
def stepD (ts bs : List Int) (i : Int) : D := stairD (lowP i (multI (ts ++ bs)), depI ts bs i)
theorem acc_loop {ts bs : List Int} (h : Good ts bs) (E : EndsD) (v0 s3 s4 : Sl) (kvs : List (Int × Int)) (hv : ∀ i ∈ kvs.map (·.1), getI kvs i = some (jmp ts bs (lowP i (multI (ts ++ bs))).2)) :
    ∀ (k : Nat) (a : Int) (found : List D) (s5 : Sl), 1 ≤ a → (∀ i ∈ chg ts bs a k, i ∈ kvs.map (·.1)) → found.length + k ≤ 1000000 →
    (∀ s5 s7, E.nx [v0, .val (.int (multI (ts ++ bs))), .own (.dic kvs), s3, s4, s5, .own (.lst (found ++ (chg ts bs a k).map (stepD ts bs))), s7]) →
    forD (gN 5) (wSeq (wAug 7 aAdd (wOp aDix (wOwn 2) (wVar 5))) (wApp 6 (wTup (wCons (wCall sp_lowest_of (wCons (wVar 5) (wCons (wVar 1) wNil))) (wCons (wVar 7) wNil))))) E
      ((chg ts bs a k).map D.int) [v0, .val (.int (multI (ts ++ bs))), .own (.dic kvs), s3, s4, s5, .own (.lst found), .val (.int (depI ts bs (a - 1)))]
  | 0, a, found, s5, ha, _, hl, q => by
    have := q s5 (.val (.int (depI ts bs (a - 1))))
    simpa [chg, rngI] using this
  | k + 1, a, found, s5, ha, hk, hl, q => by
    rw [chg_succ] at hk q ⊢
    by_cases e : depI ts bs a ≠ depI ts bs (a - 1)
    · rw [if_pos e] at hk q ⊢
      rw [List.map_cons, forD]
      have hg := hv a (hk a List.mem_cons_self)
      have hd := dep_step h.pos a
      have hz : found.length < sizeLine := by have := size_big; omega
      have := acc_loop h E v0 s3 s4 kvs hv k (a + 1) (found ++ [stepD ts bs a]) (.val (.int a)) (by omega) (fun i hi => hk i (List.mem_cons_of_mem _ hi)) (by simp; omega) (by
        intro s5 s7
        rw [List.append_assoc]
        exact q s5 s7)
      rw [show a + 1 - 1 = a by omega] at this
      simp [hg, hz, -forD]
      refine ⟨a, multI (ts ++ bs), rfl, by have := h.C1; omega, ?_, ?_⟩
      · have h1 := h.C1
        have h2 := h.2
        exact Nat.lt_of_lt_of_le (show (multI (ts ++ bs)).natAbs < 2 ^ 20 by omega) (Nat.pow_le_pow_right (by decide) (by decide))
      · rw [low_pair, ← hd]
        exact this
    · rw [if_neg e] at hk q ⊢
      have e' : depI ts bs a = depI ts bs (a - 1) := by simpa using e
      have := acc_loop h E v0 s3 s4 kvs hv k (a + 1) found s5 (by omega) hk (by omega) q
      rw [show a + 1 - 1 = a by omega, e'] at this
      exact this
theorem den_pos {i C : Int} (hC : 1 ≤ C) : 1 ≤ (lowP i C).2 := (lowP_mul hC).2.2
theorem den_one {i C : Int} (hC : 1 ≤ C) (h0 : 0 ≤ i) (h1 : i < C) (h : (lowP i C).2 = 1) : i = 0 := by
  obtain ⟨g1, g2, g3⟩ := lowP_mul (i := i) hC
  rw [h, Int.one_mul] at g2
  have := gcdI_dvd_l i C
  rw [g2] at this
  obtain ⟨t, ht⟩ := this
  by_cases h2 : t ≤ 0
  · have : C * t ≤ C * 0 := Int.mul_le_mul_of_nonneg_left h2 (by omega)
    omega
  · have : C * 1 ≤ C * t := Int.mul_le_mul_of_nonneg_left (by omega) (by omega)
    omega
/-- the keys of the jumps are the places where the depth changes -/
theorem keys_chg {ts bs : List Int} (h : Good ts bs) {kvs : List (Int × Int)} (I : DicI ts bs kvs (maxL (ts ++ bs) + 1) fun _ => False) {ns : List Int} (hp : ns.Perm (kvs.map (·.1))) (hs : ns.Pairwise (· ≤ ·)) :
    ns = chg ts bs 1 (multI (ts ++ bs) - 1).toNat := by
  have hC := h.C1
  refine sorted_ext (strict_of hs (hp.nodup_iff.mpr I.nd)) ((rngI_sorted 1 _).sublist List.filter_sublist) fun i => ?_
  rw [hp.mem_iff, I.ks i]
  unfold chg
  rw [List.mem_filter, mem_rngI, decide_eq_true_eq]
  have hd := dep_step h.pos i
  constructor
  · rintro (⟨a, b, c, d, e⟩ | z)
    · refine ⟨⟨?_, by omega⟩, by omega⟩
      by_cases hi : i = 0
      · subst hi
        rw [lowP_zero hC] at c
        exact absurd c (by decide)
      · omega
    · exact z.elim
  · rintro ⟨⟨a, b⟩, c⟩
    have hj : jmp ts bs (lowP i (multI (ts ++ bs))).2 ≠ 0 := by omega
    obtain ⟨m, hm, hdv⟩ := jmp_dvd hj
    have h1 := Int.le_of_dvd (by have := h.pos m hm; omega) hdv
    have h2 := maxL_ge hm
    have h3 := den_pos (i := i) hC
    refine .inl ⟨by omega, by omega, ?_, by omega, hj⟩
    by_cases e : (lowP i (multI (ts ++ bs))).2 = 1
    · have := den_one hC (by omega) (by omega) e
      omega
    · omega
theorem stairs_eq {ts bs : List Int} (h : Good ts bs) : (stairsL ts bs).map stairD = stairD ((0, 1), 0) :: (chg ts bs 1 (multI (ts ++ bs) - 1).toNat).map (stepD ts bs) := by
  unfold stairsL stI
  rw [List.map_map, List.map_cons]
  congr 1
  simp only [Function.comp]
  rw [lowP_zero h.C1, dep_zero]
theorem imp_stairs_in : ∀ ds Q, sp_stairs_in ds Q → ds.length = 1 ∧ wFn N_stairs_in wb_stairs_in ds Q := by
  rintro ds Q ⟨ts, bs, rfl, h, q⟩
  refine ⟨rfl, ?_⟩
  have hC := h.C1
  have hm := h.1.1 _ (maxL_mem h.1.2.2.2)
  simp [wb_stairs_in, N_stairs_in, h.1, -forD]
  refine ⟨by omega, ?_⟩
  refine jump_loop h _ .no .no (maxL (ts ++ bs) + 1 - 2).toNat 2 [] .no .no .no (by decide) ?_ (by decide) ⟨by simp, fun i => ?_, fun i hi => by cases hi⟩ fun kvs s3 s4 s5 I => ?_
  · omega
  · simp; omega
  · simp [-forD]
    intro ns hp hs
    rw [keys_chg h I hp hs]
    have z := acc_loop h { nx := wRetOwn 6 { nx := fun _ => Q .non, rt := Q }, rt := Q } (.val (.row ts bs)) s3 s4 kvs I.vs (multI (ts ++ bs) - 1).toNat 1 [stairD ((0, 1), 0)] s5 (by decide) (fun i hi => by
      have e := keys_chg h I hp hs
      rw [← e] at hi
      exact hp.mem_iff.mp hi) (by have := h.2; simp; omega) fun s5 s7 => ⟨_, rfl, by rw [stairs_eq h] at q; exact q⟩
    rw [show (1 : Int) - 1 = 0 by decide, dep_zero] at z
    exact z
theorem cal_stairs_in {P : Program} {w : World} {K : PySem.W.Frag} {mg : Str → Option Value} {base : Heap} {Z : Zc} (T : Txt P w K mg base Z) : Cal P w K mg base Z 4 "stairs_in" sp_stairs_in :=
  cal_of T.d_stairs_in sc_stairs_in imp_stairs_in fun f cdv A outer s H E hr => b_stairs_in T f cdv A outer s H E hr
end DL

namespace DL
open PySem PySem.Spec PyProof.Rows L2
section
variable {P : Program} {w : World} {K : PySem.W.Frag} {mg : Str → Option Value} {base : Heap} {Z : Zc}
/-! ### depths_in -/
def N_depths_in : List Str := ["row", "start", "here"]
theorem sc_depths_in : FnScope N_depths_in ["row"] (defScope (topAt 49)) := ⟨rfl, rfl, rfl, by decide +kernel, rfl, by decide +kernel, by decide +kernel⟩
def wb_depths_in : WS := (wRet (wLc (wIL (wCall sp_stairs_in (wCons (wVar 0) wNil))) (gT 2 (gsC (gN 1) (gsC (gN 2) gsN))) wYes (wVar 2) [1, 2]))
theorem b_depths_in (T : Txt P w K mg base Z) (f : Addr) (cdv : Value) (A : Around) (outer : List Env) (s : Shared) (H : Hp) (E : XK) (hr : Room 4 (A.deeper (envOfC "depths_in" (defScope (topAt 49)) s.heap.objs.size f cdv))) :
    PSs (cxOf CX0 P w K mg base N_depths_in "depths_in" (defScope (topAt 49)) f cdv A outer s H E).nox (defBody (topAt 49)) (tS Z wb_depths_in) :=
  (pds_one (pd_ret (pe_frz (pd_lc (own := [("start", 1), ("here", 2)]) (is := [1, 2]) rfl sc_depths_in.nd (pd_il (pd_call (cal_stairs_in T) hr (by decide) rfl (pd_cons (pd_var (i := 0) rfl (.inl rfl)) pd_nil))) (blkOk_by (N := N_depths_in) (sc := defScope (topAt 49)) (by decide +kernel)) (fun _ _ _ _ _ => (pd_gt (n := 2) T.z.k rfl (pd_gsc (pd_gn (i := 1) (is := [1, 2]) (by decide) sc_depths_in.nd rfl (.inl rfl)) (pd_gsc (pd_gn (i := 2) (is := [1, 2]) (by decide) sc_depths_in.nd rfl (.inl rfl)) pd_gsn)))) (fun _ _ _ _ _ => pd_yes) (fun _ _ _ _ _ => (pd_var (i := 2) rfl (.inl rfl))) (by decide)))))
end
def sp_depths_in : WL := fun ds Q => ∃ ts bs, ds = [.row ts bs] ∧ Good ts bs ∧ Q (.lst (((stairsL ts bs).map (·.2)).map D.int))
theorem stairs_len {ts bs : List Int} (h : Good ts bs) : (stairsL ts bs).length ≤ 2521 := by
  unfold stairsL stI
  rw [List.length_map, List.length_cons]
  have h1 := List.length_filter_le (fun i => decide (depI ts bs i ≠ depI ts bs (i - 1))) (rngI 1 (multI (ts ++ bs) - 1).toNat)
  rw [rngI_len] at h1
  have := h.2
  omega
theorem imp_depths_in : ∀ ds Q, sp_depths_in ds Q → ds.length = 1 ∧ wFn N_depths_in wb_depths_in ds Q := by
  rintro ds Q ⟨ts, bs, rfl, h, q⟩
  refine ⟨rfl, ?_⟩
  simp [wb_depths_in, N_depths_in, -lcD]
  refine ⟨ts, bs, rfl, h, _, rfl, ?_⟩
  refine lc_map stairD (fun s => .int s.2) (stairsL ts bs) (fun s hs K1 k1 => ?_) (by have := size_big; have := stairs_len h; omega) ?_
  · simpa [stairD] using k1
  · have e : (stairsL ts bs).map (fun s => D.int s.2) = ((stairsL ts bs).map (·.2)).map D.int := by rw [List.map_map]; rfl
    rw [e]; exact q
theorem cal_depths_in {P : Program} {w : World} {K : PySem.W.Frag} {mg : Str → Option Value} {base : Heap} {Z : Zc} (T : Txt P w K mg base Z) : Cal P w K mg base Z 5 "depths_in" sp_depths_in :=
  cal_of T.d_depths_in sc_depths_in imp_depths_in fun f cdv A outer s H E hr => b_depths_in T f cdv A outer s H E hr
section
variable {P : Program} {w : World} {K : PySem.W.Frag} {mg : Str → Option Value} {base : Heap} {Z : Zc}
/-! ### least_depth -/
def N_least_depth : List Str := ["row"]
theorem sc_least_depth : FnScope N_least_depth ["row"] (defScope (topAt 50)) := ⟨rfl, rfl, rfl, by decide +kernel, rfl, by decide +kernel, by decide +kernel⟩
def wb_least_depth : WS := (wSeq (wExpr (wCall sp_require_row (wCons (wVar 0) wNil))) (wRet (wCall aMin (wCons (wCall sp_depths_in (wCons (wVar 0) wNil)) wNil))))
theorem b_least_depth (T : Txt P w K mg base Z) (f : Addr) (cdv : Value) (A : Around) (outer : List Env) (s : Shared) (H : Hp) (E : XK) (hr : Room 5 (A.deeper (envOfC "least_depth" (defScope (topAt 50)) s.heap.objs.size f cdv))) :
    PSs (cxOf CX0 P w K mg base N_least_depth "least_depth" (defScope (topAt 50)) f cdv A outer s H E).nox (defBody (topAt 50)) (tS Z wb_least_depth) :=
  (pds_cons (pd_expr (pd_call (cal_require_row T) hr (by decide) rfl (pd_cons (pd_var (i := 0) rfl (.inl rfl)) pd_nil)))
    (pds_one (pd_ret (pd_callB (cd_min T.z.k) (min_any rfl (hu_of hr)) rfl T.h_min boot_min (pd_consV (pe_vw (pd_call (cal_depths_in T) hr (by decide) rfl (pd_cons (pd_var (i := 0) rfl (.inl rfl)) pd_nil))) pd_nil)))))
end
def minD (ts bs : List Int) : Int := minL ((stairsL ts bs).map (·.2))
def sp_least_depth : WL := fun ds Q => ∃ ts bs, ds = [.row ts bs] ∧ Good ts bs ∧ Q (.int (minD ts bs))
theorem stairs_ne (ts bs : List Int) : (stairsL ts bs).map (·.2) ≠ [] := by unfold stairsL stI; simp
theorem imp_least_depth : ∀ ds Q, sp_least_depth ds Q → ds.length = 1 ∧ wFn N_least_depth wb_least_depth ds Q := by
  rintro ds Q ⟨ts, bs, rfl, h, q⟩
  refine ⟨rfl, ?_⟩
  simp [wb_least_depth, N_least_depth, -aOver]
  exact ⟨ts, bs, rfl, h, aOver_l _ _ _ ⟨stairs_ne ts bs, q⟩⟩
theorem cal_least_depth {P : Program} {w : World} {K : PySem.W.Frag} {mg : Str → Option Value} {base : Heap} {Z : Zc} (T : Txt P w K mg base Z) : Cal P w K mg base Z 6 "least_depth" sp_least_depth :=
  cal_of T.d_least_depth sc_least_depth imp_least_depth fun f cdv A outer s H E hr => b_least_depth T f cdv A outer s H E hr
/-! ### the first fault -/
def faultF : List ((Int × Int) × Int) → Option ((Int × Int) × (Int × Int) × Int)
  | [] => none
  | s :: r => if s.2 < 0 then some (s.1, (match r with | [] => (1, 1) | t :: _ => t.1), s.2) else faultF r
def stairT (f : (Int × Int) × (Int × Int) × Int) : D := .tup [.str "stair", pairD f.1, pairD f.2.1, .int f.2.2]
def faultD (ts bs : List Int) : D := match faultF (stairsL ts bs) with
  | some f => stairT f
  | none => if ts.sum - bs.sum < 0 then .tup [.str "excess", .int (ts.sum - bs.sum)] else .non
def enumD : Nat → List D → List D
  | _, [] => []
  | k, d :: ds => .tup [.int k, d] :: enumD (k + 1) ds
theorem enum_eq' : ∀ (ds : List D) (k : Nat), (List.range' k ds.length).zipWith (fun (i : Nat) d => D.tup [.int i, d]) ds = enumD k ds
  | [], _ => rfl
  | d :: ds, k => by
    rw [List.length_cons, List.range'_succ, List.zipWith_cons_cons, enum_eq' ds (k + 1)]
    rfl
theorem enum_eq (ds : List D) : (List.range ds.length).zipWith (fun (i : Nat) d => D.tup [.int i, d]) ds = enumD 0 ds := by
  rw [List.range_eq_range', enum_eq']
section
variable {P : Program} {w : World} {K : PySem.W.Frag} {mg : Str → Option Value} {base : Heap} {Z : Zc}
/-! ### fault_in -/
def N_fault_in : List Str := ["row", "found", "place", "start", "depth"]
theorem sc_fault_in : FnScope N_fault_in ["row"] (defScope (topAt 57)) := ⟨rfl, rfl, rfl, by decide +kernel, rfl, by decide +kernel, by decide +kernel⟩
def wb_fault_in : WS := (wSeq (wSet 1 (wCall sp_stairs_in (wCons (wVar 0) wNil))) (wSeq (wFor (wIEnum (wVar 1)) (gT 2 (gsC (gN 2) (gsC (gT 2 (gsC (gN 3) (gsC (gN 4) gsN))) gsN))) (wIf (wTest (wOp aLt (wVar 4) (wC (.int 0)))) (wRet (wTup (wCons (wC (.str "stair")) (wCons (wVar 3) (wCons (wIfE (wTest (wOp aLt (wOp aAdd (wVar 2) (wC (.int 1))) (wCall aLen (wCons (wVar 1) wNil)))) (wOp aIx (wOp aIx (wVar 1) (wOp aAdd (wVar 2) (wC (.int 1)))) (wC (.int 0))) (wC (.tup [.int 1, .int 1]))) (wCons (wVar 4) wNil)))))) wNext)) (wRet (wIfE (wTest (wOp aLt (wProp sp_excess (wVar 0)) (wC (.int 0)))) (wTup (wCons (wC (.str "excess")) (wCons (wProp sp_excess (wVar 0)) wNil))) (wC .non)))))
theorem b_fault_in (T : Txt P w K mg base Z) (f : Addr) (cdv : Value) (A : Around) (outer : List Env) (s : Shared) (H : Hp) (E : XK) (hr : Room 4 (A.deeper (envOfC "fault_in" (defScope (topAt 57)) s.heap.objs.size f cdv))) :
    PSs (cxOf CX0 P w K mg base N_fault_in "fault_in" (defScope (topAt 57)) f cdv A outer s H E).nox (defBody (topAt 57)) (tS Z wb_fault_in) :=
  (pds_cons (pd_set (i := 1) sc_fault_in.nd rfl (.inl rfl) (pd_call (cal_stairs_in T) hr (by decide) rfl (pd_cons (pd_var (i := 0) rfl (.inl rfl)) pd_nil)))
    (pds_cons (pd_for (pd_ienum rfl T.h_enumerate (pd_var (i := 1) rfl (.inl rfl))) (pd_gt (n := 2) T.z.k rfl (pd_gsc (pd_gn (i := 2) (is := [2, 3, 4]) (by decide) sc_fault_in.nd rfl (.inl rfl)) (pd_gsc (pd_gt (n := 2) T.z.k rfl (pd_gsc (pd_gn (i := 3) (is := [2, 3, 4]) (by decide) sc_fault_in.nd rfl (.inl rfl)) (pd_gsc (pd_gn (i := 4) (is := [2, 3, 4]) (by decide) sc_fault_in.nd rfl (.inl rfl)) pd_gsn))) pd_gsn))) (pds_one (pd_if (pt_cmpD op_lt od_lt (pe_vw (pd_var (i := 4) rfl (.inl rfl))) (pe_vw pd_int)) (pds_one (pd_ret (pd_tup (pd_cons (pd_globS T.c_STAIR rfl) (pd_cons (pd_var (i := 3) rfl (.inl rfl)) (pd_cons (pd_ifE (pt_cmpD op_lt od_lt (pe_vw (pd_op op_add od_add (pe_vw (pd_var (i := 2) rfl (.inl rfl))) (pe_vw pd_int))) (pe_vw (pd_callB (cd_len T.z.k) call_len_seq rfl T.h_len boot_len (pd_consV (pe_vw (pd_var (i := 1) rfl (.inl rfl))) pd_nil)))) (pd_ix T.z.k (pe_vw (pd_ix T.z.k (pe_vw (pd_var (i := 1) rfl (.inl rfl))) (pe_vw (pd_op op_add od_add (pe_vw (pd_var (i := 2) rfl (.inl rfl))) (pe_vw pd_int))))) (pe_vw pd_int)) (pd_globT T.c_LAST_END rfl)) (pd_cons (pd_var (i := 4) rfl (.inl rfl)) pd_nil))))))) pds_nil)) PassesOwn.never rfl)
    (pds_one (pd_ret (pd_ifE (pt_cmpD op_lt od_lt (pe_vw (pd_prop T.z (at_excess T) hr (by decide) (pd_var (i := 0) rfl (.inl rfl)))) (pe_vw pd_int)) (pd_tup (pd_cons (pd_globS T.c_EXCESS rfl) (pd_cons (pd_prop T.z (at_excess T) hr (by decide) (pd_var (i := 0) rfl (.inl rfl))) pd_nil))) pd_non)))))
end
def sp_fault_in : WL := fun ds Q => ∃ ts bs, ds = [.row ts bs] ∧ Good ts bs ∧ Q (faultD ts bs)
theorem fault_loop (E : EndsD) (v0 : Sl) (all : List ((Int × Int) × Int)) (hal : all.length ≤ 100000) : ∀ (suf pre : List ((Int × Int) × Int)) (s2 s3 s4 : Sl), pre ++ suf = all →
    (match faultF suf with | some f => E.rt (stairT f) | none => ∀ s2 s3 s4, E.nx [v0, .val (.lst (all.map stairD)), s2, s3, s4]) →
    forD (gT 2 (gsC (gN 2) (gsC (gT 2 (gsC (gN 3) (gsC (gN 4) gsN))) gsN))) (wIf (wTest (wOp aLt (wVar 4) (wC (.int 0)))) (wRet (wTup (wCons (wC (.str "stair")) (wCons (wVar 3) (wCons (wIfE (wTest (wOp aLt (wOp aAdd (wVar 2) (wC (.int 1))) (wCall aLen (wCons (wVar 1) wNil)))) (wOp aIx (wOp aIx (wVar 1) (wOp aAdd (wVar 2) (wC (.int 1)))) (wC (.int 0))) (wC (.tup [.int 1, .int 1]))) (wCons (wVar 4) wNil)))))) wNext) E
      (enumD pre.length (suf.map stairD)) [v0, .val (.lst (all.map stairD)), s2, s3, s4]
  | [], pre, s2, s3, s4, _, q => q s2 s3 s4
  | s :: suf, pre, s2, s3, s4, e, q => by
    rw [List.map_cons, enumD, forD]
    unfold faultF at q
    by_cases hs : s.2 < 0
    · rw [if_pos hs] at q
      simp only at q
      simp [stairD, hs, -forD, -aIx]
      cases suf with
      | nil =>
        have hl : all.length = pre.length + 1 := by rw [← e]; simp
        have h1 : ¬ ((pre.length : Int) + 1 < all.length) := by omega
        simp [h1]
        exact ⟨by omega, by simpa [stairT, pairD] using q⟩
      | cons t suf =>
        have hl : all.length = pre.length + (suf.length + 2) := by rw [← e]; simp
        have h1 : (pre.length : Int) + 1 < all.length := by omega
        simp [h1, -aIx]
        refine .inr ?_
        refine ⟨all.map stairD, (pre.length : Int) + 1, stairD t, rfl, rfl, ?_, ?_⟩
        · have := atI_nat (all.map stairD) (pre.length + 1) (x := stairD t) (by rw [← e]; simp)
          simpa using this
        · refine ⟨[pairD t.1, .int t.2], 0, pairD t.1, rfl, rfl, atI0 _ _, ?_⟩
          simpa [stairT] using q
    · rw [if_neg hs] at q
      have := fault_loop E v0 all hal suf (pre ++ [s]) (.val (.int pre.length)) (.val (pairD s.1)) (.val (.int s.2)) (by rw [← e]; simp) q
      rw [List.length_append, List.length_singleton] at this
      simpa [stairD, hs, -forD, -aIx] using this
theorem imp_fault_in : ∀ ds Q, sp_fault_in ds Q → ds.length = 1 ∧ wFn N_fault_in wb_fault_in ds Q := by
  rintro ds Q ⟨ts, bs, rfl, h, q⟩
  refine ⟨rfl, ?_⟩
  have hl := stairs_len h
  simp [wb_fault_in, N_fault_in, -forD]
  refine ⟨ts, bs, rfl, h, _, rfl, ?_⟩
  rw [enum_eq]
  refine fault_loop _ (.val (.row ts bs)) (stairsL ts bs) (by omega) (stairsL ts bs) [] .no .no .no rfl ?_
  unfold faultD at q
  cases hf : faultF (stairsL ts bs) with
  | some f => rw [hf] at q; exact q
  | none =>
    rw [hf] at q
    intro s2 s3 s4
    simp only at q
    by_cases hx : ts.sum - bs.sum < 0
    · rw [if_pos hx] at q
      simp [hx]
      exact .inr q
    · rw [if_neg hx] at q
      simp [hx]
      exact ⟨by omega, q⟩
theorem cal_fault_in {P : Program} {w : World} {K : PySem.W.Frag} {mg : Str → Option Value} {base : Heap} {Z : Zc} (T : Txt P w K mg base Z) : Cal P w K mg base Z 5 "fault_in" sp_fault_in :=
  cal_of T.d_fault_in sc_fault_in imp_fault_in fun f cdv A outer s H E hr => b_fault_in T f cdv A outer s H E hr
end DL

namespace DL
open PySem PySem.Spec PyProof.Rows L2
@[simp] theorem kit_bb : kitB "bool" "int" = some true := by decide +kernel
@[simp] theorem kit_nb : kitB "NoneType" "bool" = some false := by decide +kernel
section
variable {P : Program} {w : World} {K : PySem.W.Frag} {mg : Str → Option Value} {base : Heap} {Z : Zc}
/-! ### is_whole_in -/
def N_is_whole_in : List Str := ["row"]
theorem sc_is_whole_in : FnScope N_is_whole_in ["row"] (defScope (topAt 58)) := ⟨rfl, rfl, rfl, by decide +kernel, rfl, by decide +kernel, by decide +kernel⟩
def wb_is_whole_in : WS := (wRet (wIsN false (wCall sp_fault_in (wCons (wVar 0) wNil))))
theorem b_is_whole_in (T : Txt P w K mg base Z) (f : Addr) (cdv : Value) (A : Around) (outer : List Env) (s : Shared) (H : Hp) (E : XK) (hr : Room 5 (A.deeper (envOfC "is_whole_in" (defScope (topAt 58)) s.heap.objs.size f cdv))) :
    PSs (cxOf CX0 P w K mg base N_is_whole_in "is_whole_in" (defScope (topAt 58)) f cdv A outer s H E).nox (defBody (topAt 58)) (tS Z wb_is_whole_in) :=
  (pds_one (pd_ret (pd_isN (pe_vw (pd_call (cal_fault_in T) hr (by decide) rfl (pd_cons (pd_var (i := 0) rfl (.inl rfl)) pd_nil))))))
end
def wholeB (ts bs : List Int) : Bool := (faultD ts bs).isN
def sp_is_whole_in : WL := fun ds Q => ∃ ts bs, ds = [.row ts bs] ∧ Good ts bs ∧ Q (.bl (wholeB ts bs))
theorem imp_is_whole_in : ∀ ds Q, sp_is_whole_in ds Q → ds.length = 1 ∧ wFn N_is_whole_in wb_is_whole_in ds Q := by
  rintro ds Q ⟨ts, bs, rfl, h, q⟩
  refine ⟨rfl, ?_⟩
  simp [wb_is_whole_in, N_is_whole_in]
  exact ⟨ts, bs, rfl, h, q⟩
theorem cal_is_whole_in {P : Program} {w : World} {K : PySem.W.Frag} {mg : Str → Option Value} {base : Heap} {Z : Zc} (T : Txt P w K mg base Z) : Cal P w K mg base Z 6 "is_whole_in" sp_is_whole_in :=
  cal_of T.d_is_whole_in sc_is_whole_in imp_is_whole_in fun f cdv A outer s H E hr => b_is_whole_in T f cdv A outer s H E hr
section
variable {P : Program} {w : World} {K : PySem.W.Frag} {mg : Str → Option Value} {base : Heap} {Z : Zc}
/-! ### is_whole -/
def N_is_whole : List Str := ["row"]
theorem sc_is_whole : FnScope N_is_whole ["row"] (defScope (topAt 59)) := ⟨rfl, rfl, rfl, by decide +kernel, rfl, by decide +kernel, by decide +kernel⟩
def wb_is_whole : WS := (wSeq (wExpr (wCall sp_require_row (wCons (wVar 0) wNil))) (wRet (wCall sp_is_whole_in (wCons (wVar 0) wNil))))
theorem b_is_whole (T : Txt P w K mg base Z) (f : Addr) (cdv : Value) (A : Around) (outer : List Env) (s : Shared) (H : Hp) (E : XK) (hr : Room 6 (A.deeper (envOfC "is_whole" (defScope (topAt 59)) s.heap.objs.size f cdv))) :
    PSs (cxOf CX0 P w K mg base N_is_whole "is_whole" (defScope (topAt 59)) f cdv A outer s H E).nox (defBody (topAt 59)) (tS Z wb_is_whole) :=
  (pds_cons (pd_expr (pd_call (cal_require_row T) hr (by decide) rfl (pd_cons (pd_var (i := 0) rfl (.inl rfl)) pd_nil)))
    (pds_one (pd_ret (pd_call (cal_is_whole_in T) hr (by decide) rfl (pd_cons (pd_var (i := 0) rfl (.inl rfl)) pd_nil)))))
end
def sp_is_whole : WL := sp_is_whole_in
theorem imp_is_whole : ∀ ds Q, sp_is_whole ds Q → ds.length = 1 ∧ wFn N_is_whole wb_is_whole ds Q := by
  rintro ds Q ⟨ts, bs, rfl, h, q⟩
  refine ⟨rfl, ?_⟩
  simp [wb_is_whole, N_is_whole]
  exact ⟨ts, bs, rfl, h, q⟩
theorem cal_is_whole {P : Program} {w : World} {K : PySem.W.Frag} {mg : Str → Option Value} {base : Heap} {Z : Zc} (T : Txt P w K mg base Z) : Cal P w K mg base Z 7 "is_whole" sp_is_whole :=
  cal_of T.d_is_whole sc_is_whole imp_is_whole fun f cdv A outer s H E hr => b_is_whole T f cdv A outer s H E hr
section
variable {P : Program} {w : World} {K : PySem.W.Frag} {mg : Str → Option Value} {base : Heap} {Z : Zc}
/-! ### fault -/
def N_fault : List Str := ["row"]
theorem sc_fault : FnScope N_fault ["row"] (defScope (topAt 60)) := ⟨rfl, rfl, rfl, by decide +kernel, rfl, by decide +kernel, by decide +kernel⟩
def wb_fault : WS := (wSeq (wExpr (wCall sp_require_row (wCons (wVar 0) wNil))) (wRet (wCall sp_fault_in (wCons (wVar 0) wNil))))
theorem b_fault (T : Txt P w K mg base Z) (f : Addr) (cdv : Value) (A : Around) (outer : List Env) (s : Shared) (H : Hp) (E : XK) (hr : Room 5 (A.deeper (envOfC "fault" (defScope (topAt 60)) s.heap.objs.size f cdv))) :
    PSs (cxOf CX0 P w K mg base N_fault "fault" (defScope (topAt 60)) f cdv A outer s H E).nox (defBody (topAt 60)) (tS Z wb_fault) :=
  (pds_cons (pd_expr (pd_call (cal_require_row T) hr (by decide) rfl (pd_cons (pd_var (i := 0) rfl (.inl rfl)) pd_nil)))
    (pds_one (pd_ret (pd_call (cal_fault_in T) hr (by decide) rfl (pd_cons (pd_var (i := 0) rfl (.inl rfl)) pd_nil)))))
end
def sp_fault : WL := sp_fault_in
theorem imp_fault : ∀ ds Q, sp_fault ds Q → ds.length = 1 ∧ wFn N_fault wb_fault ds Q := by
  rintro ds Q ⟨ts, bs, rfl, h, q⟩
  refine ⟨rfl, ?_⟩
  simp [wb_fault, N_fault]
  exact ⟨ts, bs, rfl, h, q⟩
theorem cal_fault {P : Program} {w : World} {K : PySem.W.Frag} {mg : Str → Option Value} {base : Heap} {Z : Zc} (T : Txt P w K mg base Z) : Cal P w K mg base Z 6 "fault" sp_fault :=
  cal_of T.d_fault sc_fault imp_fault fun f cdv A outer s H E hr => b_fault T f cdv A outer s H E hr
section
variable {P : Program} {w : World} {K : PySem.W.Frag} {mg : Str → Option Value} {base : Heap} {Z : Zc}
/-! ### first_broken -/
def N_first_broken : List Str := ["row", "number", "index"]
theorem sc_first_broken : FnScope N_first_broken ["row", "number"] (defScope (topAt 64)) := ⟨rfl, rfl, rfl, by decide +kernel, rfl, by decide +kernel, by decide +kernel⟩
def wb_first_broken : WS := (wSeq (wExpr (wCall sp_require_row (wCons (wVar 0) wNil))) (wSeq (wExpr (wCall sp_require_within (wCons (wVar 1) (wCons (wC (.int 1)) (wCons (wC (.int 100)) wNil))))) (wSeq (wIf (wTest (wCall sp_is_whole_in (wCons (wVar 0) wNil))) (wRet (wC .non)) wNext) (wSeq (wFor (wIR2 (wCons (wC (.int 1)) (wCons (wOp aAdd (wVar 1) (wC (.int 1))) wNil))) (gN 2) (wIf (wTest (wCall sp_is_broken_in (wCons (wVar 0) (wCons (wVar 2) wNil)))) (wRet (wVar 2)) wNext)) (wRet (wC .non))))))
theorem b_first_broken (T : Txt P w K mg base Z) (f : Addr) (cdv : Value) (A : Around) (outer : List Env) (s : Shared) (H : Hp) (E : XK) (hr : Room 6 (A.deeper (envOfC "first_broken" (defScope (topAt 64)) s.heap.objs.size f cdv))) :
    PSs (cxOf CX0 P w K mg base N_first_broken "first_broken" (defScope (topAt 64)) f cdv A outer s H E).nox (defBody (topAt 64)) (tS Z wb_first_broken) :=
  (pds_cons (pd_expr (pd_call (cal_require_row T) hr (by decide) rfl (pd_cons (pd_var (i := 0) rfl (.inl rfl)) pd_nil)))
    (pds_cons (pd_expr (pd_call (cal_require_within T) hr (by decide) rfl (pd_cons (pd_var (i := 1) rfl (.inl rfl)) (pd_cons pd_int (pd_cons (pd_globI T.c_MAX_BROKEN rfl) pd_nil)))))
    (pds_cons (pd_if (pt_valD (pd_call (cal_is_whole_in T) hr (by decide) rfl (pd_cons (pd_var (i := 0) rfl (.inl rfl)) pd_nil))) (pds_one (pd_ret pd_non)) pds_nil)
    (pds_cons (pd_for (pd_ir2 rfl T.h_range (pd_consV (pe_vw pd_int) (pd_consV (pe_vw (pd_op op_add od_add (pe_vw (pd_var (i := 1) rfl (.inl rfl))) (pe_vw pd_int))) pd_nil))) (pd_gn (i := 2) (is := [2]) (by decide) sc_first_broken.nd rfl (.inl rfl)) (pds_one (pd_if (pt_valD (pd_call (cal_is_broken_in T) hr (by decide) rfl (pd_cons (pd_var (i := 0) rfl (.inl rfl)) (pd_cons (pd_var (i := 2) rfl (.inl rfl)) pd_nil)))) (pds_one (pd_ret (pd_var (i := 2) rfl (.inl rfl)))) pds_nil)) PassesOwn.never rfl)
    (pds_one (pd_ret pd_non))))))
end
def fstBrk (ts bs : List Int) : List Int → D
  | [] => .non
  | k :: r => if brk ts bs k ≠ [] then .int k else fstBrk ts bs r
def firstD (ts bs : List Int) (n : Int) : D := if wholeB ts bs = true then .non else fstBrk ts bs (rngI 1 n.toNat)
def sp_first_broken : WL := fun ds Q => ∃ (ts bs : List Int) (n : Int), ds = [.row ts bs, .int n] ∧ Good ts bs ∧ 1 ≤ n ∧ n ≤ 100 ∧ Q (firstD ts bs n)
theorem first_loop (E : EndsD) {ts bs : List Int} (h : Good ts bs) (v1 : Sl) : ∀ (is : List Int) (s : Sl), (∀ i ∈ is, 0 ≤ i ∧ i ≤ 150) →
    (match fstBrk ts bs is with | .non => ∀ s, E.nx [.val (.row ts bs), v1, s] | d => E.rt d) →
    forD (gN 2) (wIf (wTest (wCall sp_is_broken_in (wCons (wVar 0) (wCons (wVar 2) wNil)))) (wRet (wVar 2)) wNext) E (is.map D.int) [.val (.row ts bs), v1, s]
  | [], s, _, q => q s
  | i :: is, s, hi, q => by
    obtain ⟨a, b⟩ := hi i List.mem_cons_self
    rw [List.map_cons, forD]
    simp [-forD]
    refine ⟨ts, bs, i, rfl, h.1, a, b, ?_⟩
    unfold fstBrk at q
    by_cases e : brk ts bs i = []
    · rw [if_neg (by simpa using e)] at q
      have := first_loop E h v1 is (.val (.int i)) (fun j hj => hi j (List.mem_cons_of_mem _ hj)) q
      simpa [e, -forD] using this
    · rw [if_pos e] at q
      simpa [e, -forD] using q
theorem imp_first_broken : ∀ ds Q, sp_first_broken ds Q → ds.length = 2 ∧ wFn N_first_broken wb_first_broken ds Q := by
  rintro ds Q ⟨ts, bs, n, rfl, h, h1, h2, q⟩
  refine ⟨rfl, ?_⟩
  simp [wb_first_broken, N_first_broken, -forD]
  refine ⟨⟨h1, h2⟩, ts, bs, rfl, h, ?_⟩
  unfold firstD at q
  cases hw : wholeB ts bs with
  | true => rw [hw, if_pos rfl] at q; simpa using q
  | false =>
    rw [hw, if_neg (by decide)] at q
    simp [-forD]
    refine ⟨by omega, ?_⟩
    rw [rngD_eq]
    refine first_loop _ h _ _ _ (fun i hi => by have := mem_rngI.mp hi; omega) ?_
    cases hd : fstBrk ts bs (rngI 1 n.toNat) with
    | non => rw [hd] at q; intro s; simpa using q
    | _ => rw [hd] at q; exact q
theorem cal_first_broken {P : Program} {w : World} {K : PySem.W.Frag} {mg : Str → Option Value} {base : Heap} {Z : Zc} (T : Txt P w K mg base Z) : Cal P w K mg base Z 7 "first_broken" sp_first_broken :=
  cal_of T.d_first_broken sc_first_broken imp_first_broken fun f cdv A outer s H E hr => b_first_broken T f cdv A outer s H E hr
theorem cmp_stair : (D.str "stair").cmp := ⟨rfl, by decide +kernel⟩
theorem cmp_excess : (D.str "excess").cmp := ⟨rfl, by decide +kernel⟩
theorem eqv_se : PyData.eqv (D.str "stair").py (D.str "excess").py = false := by decide +kernel
theorem eqv_ee : PyData.eqv (D.str "excess").py (D.str "excess").py = true := by decide +kernel
theorem eqv_ss : PyData.eqv (D.str "stair").py (D.str "stair").py = true := by decide +kernel
theorem eqv_es : PyData.eqv (D.str "excess").py (D.str "stair").py = false := by decide +kernel
section
variable {P : Program} {w : World} {K : PySem.W.Frag} {mg : Str → Option Value} {base : Heap} {Z : Zc}
/-! ### witness_by -/
def N_witness_by : List Str := ["broken", "prime", "top", "bottom"]
theorem sc_witness_by : FnScope N_witness_by ["broken", "prime"] (defScope (topAt 67)) := ⟨rfl, rfl, rfl, by decide +kernel, rfl, by decide +kernel, by decide +kernel⟩
def wb_witness_by : WS := (wSeq (wIf (wTest (wOp (aEq false) (wOp aIx (wVar 0) (wC (.int 0))) (wC (.str "excess")))) (wRet (wVar 1)) wNext) (wSeq (wAsg (wOp aIx (wVar 0) (wC (.int 1))) (gT 2 (gsC (gN 2) (gsC (gN 3) gsN)))) (wRet (wUn aNeg (wOp aDiv (wOp aMul (wUn aNeg (wVar 2)) (wVar 1)) (wVar 3))))))
theorem b_witness_by (T : Txt P w K mg base Z) (f : Addr) (cdv : Value) (A : Around) (outer : List Env) (s : Shared) (H : Hp) (E : XK) (hr : Room 0 (A.deeper (envOfC "witness_by" (defScope (topAt 67)) s.heap.objs.size f cdv))) :
    PSs (cxOf CX0 P w K mg base N_witness_by "witness_by" (defScope (topAt 67)) f cdv A outer s H E).nox (defBody (topAt 67)) (tS Z wb_witness_by) :=
  (pds_cons (pd_if (pt_cmpD (op_eqD hr.units) (od_eq T.z.k) (pe_vw (pd_ix T.z.k (pe_vw (pd_var (i := 0) rfl (.inl rfl))) (pe_vw pd_int))) (pe_vw (pd_globS T.c_EXCESS rfl))) (pds_one (pd_ret (pd_var (i := 1) rfl (.inl rfl)))) pds_nil)
    (pds_cons (pd_asg (pd_ix T.z.k (pe_vw (pd_var (i := 0) rfl (.inl rfl))) (pe_vw pd_int)) (pd_gt (n := 2) T.z.k rfl (pd_gsc (pd_gn (i := 2) (is := [2, 3]) (by decide) sc_witness_by.nd rfl (.inl rfl)) (pd_gsc (pd_gn (i := 3) (is := [2, 3]) (by decide) sc_witness_by.nd rfl (.inl rfl)) pd_gsn))))
    (pds_one (pd_ret (pd_un un_neg ud_neg (pe_vw (pd_op op_fdivW od_div (pe_vw (pd_op op_mulW od_mul (pe_vw (pd_un un_neg ud_neg (pe_vw (pd_var (i := 2) rfl (.inl rfl))))) (pe_vw (pd_var (i := 1) rfl (.inl rfl))))) (pe_vw (pd_var (i := 3) rfl (.inl rfl))))))))))
end
/-- the witness that a fault gives -/
def witI (ts bs : List Int) (p : Int) : Int := match faultF (stairsL ts bs) with
  | some f => -(-f.1.1 * p / f.1.2)
  | none => p
def excD (x : Int) : D := .tup [.str "excess", .int x]
def sp_witness_by : WL := fun ds Q => (∃ (f : (Int × Int) × (Int × Int) × Int) (p : Int), ds = [stairT f, .int p] ∧ 0 ≤ f.1.1 ∧ f.1.1 < 2 ^ 20 ∧ 1 ≤ f.1.2 ∧ f.1.2 < 2 ^ 20 ∧ 0 ≤ p ∧ p < 2 ^ 20 ∧ Q (.int (-(-f.1.1 * p / f.1.2)))) ∨
  ∃ x p : Int, ds = [excD x, .int p] ∧ Q (.int p)
theorem imp_witness_by : ∀ ds Q, sp_witness_by ds Q → ds.length = 2 ∧ wFn N_witness_by wb_witness_by ds Q := by
  rintro ds Q (⟨f, p, rfl, a, b, c, d, e, g, q⟩ | ⟨x, p, rfl, q⟩)
  · refine ⟨rfl, ?_⟩
    have c1 : CMulW (-f.1.1) p := mulW_of (a := 20) (b := 20) (by omega) (by omega)
    have c2 : CDivW (-f.1.1 * p) f.1.2 := divW_of (b := 20) (by omega) (by omega)
    simp [wb_witness_by, N_witness_by, stairT, -aIx, -aEq]
    refine ⟨_, 0, .str "stair", rfl, rfl, atI0 _ _, ?_⟩
    refine ⟨cmp_stair, cmp_excess, ?_⟩
    rw [if_neg (by decide), eqv_se]
    simp [-aIx]
    refine ⟨_, 1, pairD f.1, rfl, rfl, atI1 _ _ _, ?_⟩
    simpa [pairD, c1, c2] using q
  · refine ⟨rfl, ?_⟩
    simp [wb_witness_by, N_witness_by, excD, -aIx, -aEq]
    refine ⟨_, 0, .str "excess", rfl, rfl, atI0 _ _, ?_⟩
    refine ⟨cmp_excess, cmp_excess, ?_⟩
    rw [if_neg (by decide), eqv_ee]
    simpa using q
theorem cal_witness_by {P : Program} {w : World} {K : PySem.W.Frag} {mg : Str → Option Value} {base : Heap} {Z : Zc} (T : Txt P w K mg base Z) : Cal P w K mg base Z 1 "witness_by" sp_witness_by :=
  cal_of T.d_witness_by sc_witness_by imp_witness_by fun f cdv A outer s H E hr => b_witness_by T f cdv A outer s H E hr
section
variable {P : Program} {w : World} {K : PySem.W.Frag} {mg : Str → Option Value} {base : Heap} {Z : Zc}
/-! ### witness -/
def N_witness : List Str := ["row", "prime", "broken"]
theorem sc_witness : FnScope N_witness ["row", "prime"] (defScope (topAt 68)) := ⟨rfl, rfl, rfl, by decide +kernel, rfl, by decide +kernel, by decide +kernel⟩
def wb_witness : WS := (wSeq (wExpr (wCall sp_require_row (wCons (wVar 0) wNil))) (wSeq (wExpr (wCall sp_require_prime (wCons (wVar 1) wNil))) (wSeq (wSet 2 (wCall sp_fault_in (wCons (wVar 0) wNil))) (wSeq (wIf (wOr (wTest (wIsN false (wVar 2))) (wTest (wOp aLe (wVar 1) (wOp aMul (wProp sp_greatest (wVar 0)) (wProp sp_greatest (wVar 0)))))) wNever wNext) (wRet (wCall sp_witness_by (wCons (wVar 2) (wCons (wVar 1) wNil))))))))
theorem b_witness (T : Txt P w K mg base Z) (f : Addr) (cdv : Value) (A : Around) (outer : List Env) (s : Shared) (H : Hp) (E : XK) (hr : Room 5 (A.deeper (envOfC "witness" (defScope (topAt 68)) s.heap.objs.size f cdv))) :
    PSs (cxOf CX0 P w K mg base N_witness "witness" (defScope (topAt 68)) f cdv A outer s H E).nox (defBody (topAt 68)) (tS Z wb_witness) :=
  (pds_cons (pd_expr (pd_call (cal_require_row T) hr (by decide) rfl (pd_cons (pd_var (i := 0) rfl (.inl rfl)) pd_nil)))
    (pds_cons (pd_expr (pd_call (cal_require_prime T) hr (by decide) rfl (pd_cons (pd_var (i := 1) rfl (.inl rfl)) pd_nil)))
    (pds_cons (pd_set (i := 2) sc_witness.nd rfl (.inl rfl) (pd_call (cal_fault_in T) hr (by decide) rfl (pd_cons (pd_var (i := 0) rfl (.inl rfl)) pd_nil)))
    (pds_cons (pd_if (PW.pt (pw_orD (pt_isN (pe_vw (pd_var (i := 2) rfl (.inl rfl)))) (pw_or1D (pt_cmpD op_le od_le (pe_vw (pd_var (i := 1) rfl (.inl rfl))) (pe_vw (pd_op op_mulW od_mul (pe_vw (pd_prop T.z (at_greatest T) hr (by decide) (pd_var (i := 0) rfl (.inl rfl)))) (pe_vw (pd_prop T.z (at_greatest T) hr (by decide) (pd_var (i := 0) rfl (.inl rfl)))))))))) pds_never pds_nil)
    (pds_one (pd_ret (pd_call (cal_witness_by T) hr (by decide) rfl (pd_cons (pd_var (i := 2) rfl (.inl rfl)) (pd_cons (pd_var (i := 1) rfl (.inl rfl)) pd_nil)))))))))
end
def sp_witness : WL := fun ds Q => ∃ (ts bs : List Int) (p : Int), ds = [.row ts bs, .int p] ∧ Good ts bs ∧ wholeB ts bs = false ∧ prB p = true ∧ p ≤ 10 ^ 6 ∧ maxL (ts ++ bs) * maxL (ts ++ bs) < p ∧ Q (.int (witI ts bs p))
theorem low_bounds {i C : Int} (hC : 1 ≤ C) (hC2 : C ≤ 2520) (h0 : 0 ≤ i) (h1 : i < C) : 0 ≤ (lowP i C).1 ∧ (lowP i C).1 ≤ i ∧ 1 ≤ (lowP i C).2 ∧ (lowP i C).2 ≤ C := by
  have hg := gcdI_pos (i := i) hC
  refine ⟨Int.ediv_nonneg h0 (by omega), Int.ediv_le_self _ h0, (lowP_mul hC).2.2, Int.ediv_le_self _ (by omega)⟩
theorem stI_mem {ts bs : List Int} (h : Good ts bs) {i : Int} (hi : i ∈ stI ts bs) : 0 ≤ i ∧ i < multI (ts ++ bs) := by
  have hC := h.C1
  unfold stI at hi
  rcases List.mem_cons.mp hi with e | hi
  · omega
  · have := mem_rngI.mp (List.mem_filter.mp hi).1
    omega
theorem faultF_mem : ∀ {sts : List ((Int × Int) × Int)} {f : (Int × Int) × (Int × Int) × Int}, faultF sts = some f → (f.1, f.2.2) ∈ sts ∧ f.2.2 < 0
  | [], _, h => by cases h
  | s :: r, f, h => by
    unfold faultF at h
    by_cases hs : s.2 < 0
    · rw [if_pos hs] at h
      cases h
      exact ⟨List.mem_cons_self, hs⟩
    · rw [if_neg hs] at h
      obtain ⟨a, b⟩ := faultF_mem h
      exact ⟨List.mem_cons_of_mem _ a, b⟩
theorem fault_place {ts bs : List Int} (h : Good ts bs) {f : (Int × Int) × (Int × Int) × Int} (e : faultF (stairsL ts bs) = some f) : ∃ i, i ∈ stI ts bs ∧ f.1 = lowP i (multI (ts ++ bs)) ∧ f.2.2 = depI ts bs i := by
  obtain ⟨a, _⟩ := faultF_mem e
  unfold stairsL at a
  obtain ⟨i, hi, z⟩ := List.mem_map.mp a
  exact ⟨i, hi, (congrArg Prod.fst z).symm, (congrArg Prod.snd z).symm⟩
theorem imp_witness : ∀ ds Q, sp_witness ds Q → ds.length = 2 ∧ wFn N_witness wb_witness ds Q := by
  rintro ds Q ⟨ts, bs, p, rfl, h, hw, hp, hp2, hgt, q⟩
  refine ⟨rfl, ?_⟩
  have hm := h.1.1 _ (maxL_mem h.1.2.2.2)
  have c1 : CMulW (maxL (ts ++ bs)) (maxL (ts ++ bs)) := mulW_of (a := 10) (b := 10) (by omega) (by omega)
  have p2 := (prB_iff.mp hp).1
  simp [wb_witness, N_witness]
  refine ⟨p, rfl, hp2, hp, ts, bs, rfl, h, ?_⟩
  unfold wholeB at hw
  simp [hw, h.1, c1, hgt]
  refine ⟨hw, ?_⟩
  unfold faultD at hw ⊢
  unfold witI at q
  cases hf : faultF (stairsL ts bs) with
  | some f =>
    rw [hf] at q
    obtain ⟨i, hi, e1, _⟩ := fault_place h hf
    obtain ⟨i0, i1⟩ := stI_mem h hi
    obtain ⟨b1, b2, b3, b4⟩ := low_bounds h.C1 h.2 i0 i1
    have := h.2
    rw [← e1] at b1 b2 b3 b4
    exact .inl ⟨f, p, rfl, b1, by omega, b3, by omega, by omega, by omega, q⟩
  | none =>
    rw [hf] at q hw
    simp only at hw ⊢
    by_cases hx : ts.sum - bs.sum < 0
    · rw [if_pos hx]
      exact .inr ⟨_, p, rfl, q⟩
    · rw [if_neg hx] at hw
      cases hw
theorem cal_witness {P : Program} {w : World} {K : PySem.W.Frag} {mg : Str → Option Value} {base : Heap} {Z : Zc} (T : Txt P w K mg base Z) : Cal P w K mg base Z 6 "witness" sp_witness :=
  cal_of T.d_witness sc_witness imp_witness fun f cdv A outer s H E hr => b_witness T f cdv A outer s H E hr
section
variable {P : Program} {w : World} {K : PySem.W.Frag} {mg : Str → Option Value} {base : Heap} {Z : Zc}
/-! ### is_witness -/
def N_is_witness : List Str := ["row", "prime", "value"]
theorem sc_is_witness : FnScope N_is_witness ["row", "prime", "value"] (defScope (topAt 69)) := ⟨rfl, rfl, rfl, by decide +kernel, rfl, by decide +kernel, by decide +kernel⟩
def wb_is_witness : WS := (wSeq (wExpr (wCall sp_require_row (wCons (wVar 0) wNil))) (wSeq (wExpr (wCall sp_require_prime (wCons (wVar 1) wNil))) (wSeq (wIf (wOr (wNot (wTest (wIsi "int" (wVar 2)))) (wOr (wTest (wIsi "bool" (wVar 2))) (wTest (wOp aLt (wVar 2) (wC (.int 1)))))) (wRet (wC (.bl false))) wNext) (wRet (wOp aLt (wCall sp_exponent_of_row (wCons (wVar 0) (wCons (wVar 1) (wCons (wVar 2) wNil)))) (wC (.int 0)))))))
theorem b_is_witness (T : Txt P w K mg base Z) (f : Addr) (cdv : Value) (A : Around) (outer : List Env) (s : Shared) (H : Hp) (E : XK) (hr : Room 4 (A.deeper (envOfC "is_witness" (defScope (topAt 69)) s.heap.objs.size f cdv))) :
    PSs (cxOf CX0 P w K mg base N_is_witness "is_witness" (defScope (topAt 69)) f cdv A outer s H E).nox (defBody (topAt 69)) (tS Z wb_is_witness) :=
  (pds_cons (pd_expr (pd_call (cal_require_row T) hr (by decide) rfl (pd_cons (pd_var (i := 0) rfl (.inl rfl)) pd_nil)))
    (pds_cons (pd_expr (pd_call (cal_require_prime T) hr (by decide) rfl (pd_cons (pd_var (i := 1) rfl (.inl rfl)) pd_nil)))
    (pds_cons (pd_if (PW.pt (pw_orD (pt_notD (pt_valD (pd_isi T.z.k rfl T.h_isinstance rfl T.h_int boot_int (pd_var (i := 2) rfl (.inl rfl))))) (pw_orD (pt_valD (pd_isi T.z.k rfl T.h_isinstance rfl T.h_bool boot_bool (pd_var (i := 2) rfl (.inl rfl)))) (pw_or1D (pt_cmpD op_lt od_lt (pe_vw (pd_var (i := 2) rfl (.inl rfl))) (pe_vw pd_int)))))) (pds_one (pd_ret pd_bl)) pds_nil)
    (pds_one (pd_ret (pd_cmp op_lt od_lt (pe_vw (pd_call (cal_exponent_of_row T) hr (by decide) rfl (pd_cons (pd_var (i := 0) rfl (.inl rfl)) (pd_cons (pd_var (i := 1) rfl (.inl rfl)) (pd_cons (pd_var (i := 2) rfl (.inl rfl)) pd_nil))))) (pe_vw pd_int)))))))
end
def sp_is_witness : WL := fun ds Q => (∃ (ts bs : List Int) (p : Int), ds = [.row ts bs, .int p, .non] ∧ prB p = true ∧ p ≤ 10 ^ 6 ∧ Q (.bl false)) ∨
  ∃ (ts bs : List Int) (p v : Int), ds = [.row ts bs, .int p, .int v] ∧ Small ts bs ∧ prB p = true ∧ p ≤ 10 ^ 6 ∧ v ≤ 10 ^ 30 ∧ Q (.bl (decide (1 ≤ v ∧ expo ts bs p v < 0)))
theorem imp_is_witness : ∀ ds Q, sp_is_witness ds Q → ds.length = 3 ∧ wFn N_is_witness wb_is_witness ds Q := by
  rintro ds Q (⟨ts, bs, p, rfl, hp, hp2, q⟩ | ⟨ts, bs, p, v, rfl, h, hp, hp2, hv, q⟩)
  · refine ⟨rfl, ?_⟩
    simp [wb_is_witness, N_is_witness]
    exact ⟨p, rfl, hp2, hp, by simpa using q⟩
  · refine ⟨rfl, ?_⟩
    have p2 := (prB_iff.mp hp).1
    simp [wb_is_witness, N_is_witness]
    refine ⟨p, rfl, hp2, hp, ?_⟩
    by_cases e : v < 1
    · have : ¬ (1 ≤ v) := by omega
      simp [this] at q
      simp [e]
      exact .inr q
    · have h1 : 1 ≤ v := by omega
      simp [h1] at q
      simp [e]
      exact ⟨h1, ts, bs, p, v, rfl, h, p2, by omega, by omega, hv, q⟩
theorem cal_is_witness {P : Program} {w : World} {K : PySem.W.Frag} {mg : Str → Option Value} {base : Heap} {Z : Zc} (T : Txt P w K mg base Z) : Cal P w K mg base Z 5 "is_witness" sp_is_witness :=
  cal_of T.d_is_witness sc_is_witness imp_is_witness fun f cdv A outer s H E hr => b_is_witness T f cdv A outer s H E hr
end DL

namespace DL
open PySem PySem.Spec PyProof.Rows L2
/-! ### the law's own small words -/
theorem gcdI_step {a b : Int} (ha : 0 ≤ a) (hb : 0 ≤ b) : gcdI b (a % b) = gcdI a b := by
  obtain ⟨m, rfl⟩ := Int.eq_ofNat_of_zero_le ha
  obtain ⟨n, rfl⟩ := Int.eq_ofNat_of_zero_le hb
  unfold gcdI
  rw [← Int.natCast_emod]
  simp only [Int.natAbs_natCast]
  rw [Nat.gcd_comm n (m % n), ← Nat.gcd_rec, Nat.gcd_comm]
theorem gcdI_zero {a : Int} (ha : 0 ≤ a) : gcdI a 0 = a := by
  unfold gcdI
  simp; omega
theorem gcdI_abs (a b : Int) : gcdI a (if b < 0 then -b else b) = gcdI a b := by
  unfold gcdI
  have : (if b < 0 then -b else b).natAbs = b.natAbs := by split <;> omega
  rw [this]
theorem gcdI_nonneg (a b : Int) : 0 ≤ gcdI a b := by unfold gcdI; omega
section
variable {P : Program} {w : World} {K : PySem.W.Frag} {mg : Str → Option Value} {base : Heap} {Z : Zc}
/-! ### _law_common -/
def N__law_common : List Str := ["_law_numbers", "_law_found", "_law_number", "_law_one", "_law_other"]
theorem sc__law_common : FnScope N__law_common ["_law_numbers"] (defScope (topAt 79)) := ⟨rfl, rfl, rfl, by decide +kernel, rfl, by decide +kernel, by decide +kernel⟩
def wb__law_common : WS := (wSeq (wSet 1 (wC (.int 0))) (wSeq (wFor (wISeq (wVar 0)) (gN 2) (wSeq (wPar2 3 4 .frz .frz (wVar 1) (wCall aAbs (wCons (wVar 2) wNil))) (wSeq (wWhile (wTest (wOp (aEq true) (wVar 4) (wC (.int 0)))) (wPar2 3 4 .frz .frz (wVar 4) (wOp aMod (wCall aInt (wCons (wVar 3) wNil)) (wVar 4)))) (wSet 1 (wVar 3))))) (wRet (wVar 1))))
theorem b__law_common (T : Txt P w K mg base Z) (f : Addr) (cdv : Value) (A : Around) (outer : List Env) (s : Shared) (H : Hp) (E : XK) (hr : Room 0 (A.deeper (envOfC "_law_common" (defScope (topAt 79)) s.heap.objs.size f cdv))) :
    PSs (cxOf CX0 P w K mg base N__law_common "_law_common" (defScope (topAt 79)) f cdv A outer s H E).nox (defBody (topAt 79)) (tS Z wb__law_common) :=
  (pds_cons (pd_set (i := 1) sc__law_common.nd rfl (.inl rfl) pd_int)
    (pds_cons (pd_for (pd_iseq T.z.k (pd_var (i := 0) rfl (.inl rfl))) (pd_gn (i := 2) (is := [2]) (by decide) sc__law_common.nd rfl (.inl rfl)) (pds_cons (pd_par2 (i := 3) (j := 4) (k1 := .frz) (k2 := .frz) (by decide) (by decide) rfl sc__law_common.nd rfl rfl (by decide) rfl rfl (pd_var (i := 1) rfl (.inl rfl)) (pd_callB cd_abs call_abs rfl T.h_abs boot_abs (pd_consV (pe_vw (pd_var (i := 2) rfl (.inl rfl))) pd_nil)) (by rfl))
    (pds_cons (pd_while (pt_cmpD (op_neD hr.units) (od_ne T.z.k) (pe_vw (pd_var (i := 4) rfl (.inl rfl))) (pe_vw pd_int)) (pds_one (pd_par2 (i := 3) (j := 4) (k1 := .frz) (k2 := .frz) (by decide) (by decide) rfl sc__law_common.nd rfl rfl (by decide) rfl rfl (pd_var (i := 4) rfl (.inl rfl)) (pd_op op_mod od_mod (pe_vw (pd_callTy cd_int call_int1 rfl T.h_int boot_int (pd_consV (pe_vw (pd_var (i := 3) rfl (.inl rfl))) pd_nil))) (pe_vw (pd_var (i := 4) rfl (.inl rfl)))) (by rfl))) PassesOwn.never)
    (pds_one (pd_set (i := 1) sc__law_common.nd rfl (.inl rfl) (pd_var (i := 3) rfl (.inl rfl)))))) PassesOwn.never rfl)
    (pds_one (pd_ret (pd_var (i := 1) rfl (.inl rfl))))))
end
def gcdL (f : Int) (ns : List Int) : Int := ns.foldl gcdI f
def sp__law_common : WL := fun ds Q => ∃ (d : D) (ns : List Int), ds = [d] ∧ isInts d ns ∧ Q (.int (gcdL 0 ns))
def EucI (v0 v1 v2 : Sl) (g : Int) (env : En) : Prop := ∃ a b : Int, env = [v0, v1, v2, .val (.int a), .val (.int b)] ∧ 0 ≤ a ∧ 0 ≤ b ∧ gcdI a b = g
def EucM (env : En) : Nat := match (env[4]? : Option Sl) with
  | some (Sl.val (D.int b)) => b.toNat
  | _ => 0
theorem common_loop (E : EndsD) (v : Sl) : ∀ (ns : List Int) (f : Int) (s2 s3 s4 : Sl), 0 ≤ f →
    (∀ s2 s3 s4, E.nx [v, .val (.int (gcdL f ns)), s2, s3, s4]) →
    forD (gN 2) (wSeq (wPar2 3 4 .frz .frz (wVar 1) (wCall aAbs (wCons (wVar 2) wNil))) (wSeq (wWhile (wTest (wOp (aEq true) (wVar 4) (wC (.int 0)))) (wPar2 3 4 .frz .frz (wVar 4) (wOp aMod (wCall aInt (wCons (wVar 3) wNil)) (wVar 4)))) (wSet 1 (wVar 3)))) E
      (ns.map D.int) [v, .val (.int f), s2, s3, s4]
  | [], f, s2, s3, s4, _, q => q s2 s3 s4
  | n :: ns, f, s2, s3, s4, hf, q => by
    rw [List.map_cons, forD]
    simp [-forD, -wWhile]
    refine ⟨EucI v (.val (.int f)) (.val (.int n)) (gcdI f n), EucM, ⟨f, if n < 0 then -n else n, rfl, hf, by split <;> omega, gcdI_abs f n⟩, ?_⟩
    rintro env ⟨a, b, rfl, ha, hb, hg⟩
    by_cases e : b = 0
    · subst e
      rw [gcdI_zero ha] at hg
      subst hg
      simp [-forD]
      exact common_loop E v ns (gcdI f n) (.val (.int n)) (.val (.int (gcdI f n))) (.val (.int 0)) (gcdI_nonneg _ _) q
    · have hb0 : 0 < b := by omega
      simp [e, hb0, -forD]
      refine ⟨⟨b, a % b, rfl, hb, Int.emod_nonneg _ e, by rw [gcdI_step ha hb]; exact hg⟩, ?_⟩
      have h1 := Int.emod_lt_of_pos a hb0
      have h2 := Int.emod_nonneg a e
      show (a % b).toNat < b.toNat
      omega
theorem imp__law_common : ∀ ds Q, sp__law_common ds Q → ds.length = 1 ∧ wFn N__law_common wb__law_common ds Q := by
  rintro ds Q ⟨d, ns, rfl, h, q⟩
  refine ⟨rfl, ?_⟩
  simp [wb__law_common, N__law_common, -forD, -wWhile]
  refine iseq_ints h ?_
  exact common_loop { nx := wRet (wVar 1) { nx := fun _ => Q .non, rt := Q }, rt := Q } (.val d) ns 0 .no .no .no (by decide) (fun s2 s3 s4 => by simpa using q)
theorem cal__law_common {P : Program} {w : World} {K : PySem.W.Frag} {mg : Str → Option Value} {base : Heap} {Z : Zc} (T : Txt P w K mg base Z) : Cal P w K mg base Z 1 "_law_common" sp__law_common :=
  cal_of T.d__law_common sc__law_common imp__law_common fun f cdv A outer s H E hr => b__law_common T f cdv A outer s H E hr
theorem sp_common2 (a b : Int) (Q : D → Prop) (h : 0 ≤ a) (q : Q (.int (gcdI a b))) : sp__law_common [.lst [.int a, .int b]] Q := by
  refine ⟨_, [a, b], rfl, .inl rfl, ?_⟩
  have : gcdL 0 [a, b] = gcdI a b := by
    show gcdI (gcdI 0 a) b = _
    have : gcdI 0 a = a := by unfold gcdI; simp; omega
    rw [this]
  rw [this]; exact q
section
variable {P : Program} {w : World} {K : PySem.W.Frag} {mg : Str → Option Value} {base : Heap} {Z : Zc}
/-! ### _law_multiple -/
def N__law_multiple : List Str := ["_law_numbers", "_law_found", "_law_number"]
theorem sc__law_multiple : FnScope N__law_multiple ["_law_numbers"] (defScope (topAt 80)) := ⟨rfl, rfl, rfl, by decide +kernel, rfl, by decide +kernel, by decide +kernel⟩
def wb__law_multiple : WS := (wSeq (wSet 1 (wC (.int 1))) (wSeq (wFor (wISeq (wVar 0)) (gN 2) (wSet 1 (wOp aMul (wVar 1) (wOp aDiv (wVar 2) (wCall sp__law_common (wCons (wLst (wCons (wVar 1) (wCons (wVar 2) wNil))) wNil)))))) (wRet (wVar 1))))
theorem b__law_multiple (T : Txt P w K mg base Z) (f : Addr) (cdv : Value) (A : Around) (outer : List Env) (s : Shared) (H : Hp) (E : XK) (hr : Room 1 (A.deeper (envOfC "_law_multiple" (defScope (topAt 80)) s.heap.objs.size f cdv))) :
    PSs (cxOf CX0 P w K mg base N__law_multiple "_law_multiple" (defScope (topAt 80)) f cdv A outer s H E).nox (defBody (topAt 80)) (tS Z wb__law_multiple) :=
  (pds_cons (pd_set (i := 1) sc__law_multiple.nd rfl (.inl rfl) pd_int)
    (pds_cons (pd_for (pd_iseq T.z.k (pd_var (i := 0) rfl (.inl rfl))) (pd_gn (i := 2) (is := [2]) (by decide) sc__law_multiple.nd rfl (.inl rfl)) (pds_one (pd_set (i := 1) sc__law_multiple.nd rfl (.inl rfl) (pd_op op_mulW od_mul (pe_vw (pd_var (i := 1) rfl (.inl rfl))) (pe_vw (pd_op op_fdivW od_div (pe_vw (pd_var (i := 2) rfl (.inl rfl))) (pe_vw (pd_call (cal__law_common T) hr (by decide) rfl (pd_cons (pe_frz (pd_lst (pd_cons (pd_var (i := 1) rfl (.inl rfl)) (pd_cons (pd_var (i := 2) rfl (.inl rfl)) pd_nil)))) pd_nil)))))))) PassesOwn.never rfl)
    (pds_one (pd_ret (pd_var (i := 1) rfl (.inl rfl))))))
end
def sp__law_multiple : WL := sp_multiple_of
theorem multL_loop (E : EndsD) (v : Sl) : ∀ (ns : List Int) (i : Nat) (f : Int) (s : Sl), 1 ≤ f → f.natAbs < 2 ^ (20 * i + 1) → i + ns.length ≤ 1000 → (∀ n ∈ ns, 1 ≤ n ∧ n < 2 ^ 20) →
    (∀ s, E.nx [v, .val (.int (lcmFold ns f)), s]) →
    forD (gN 2) (wSet 1 (wOp aMul (wVar 1) (wOp aDiv (wVar 2) (wCall sp__law_common (wCons (wLst (wCons (wVar 1) (wCons (wVar 2) wNil))) wNil))))) E (ns.map D.int) [v, .val (.int f), s]
  | [], i, f, s, _, _, _, _, q => q s
  | n :: ns, i, f, s, h1, hb, hl, hn, q => by
    obtain ⟨hn1, hn2⟩ := hn n List.mem_cons_self
    obtain ⟨g1, g2, g3, g4⟩ := gcd_step h1 hn1
    have hl : i + (ns.length + 1) ≤ 1000 := hl
    have c1 : CDivW n (gcdI f n) := divW_of (b := 20) g1 (by unfold gcdI; omega)
    have q20 : (n / gcdI f n).natAbs < 2 ^ 20 := by unfold gcdI; omega
    have c2 : CMulW f (n / gcdI f n) := wide_mul hb q20 (by omega) (by decide) (by omega)
    have := multL_loop E v ns (i + 1) (f * (n / gcdI f n)) (.val (.int n)) (by
      have := Int.mul_le_mul h1 g3 (by decide) (by omega); simpa [gcdI] using this) (by
      have := wide_lt hb q20; rw [show 20 * i + 1 + 20 = 20 * (i + 1) + 1 by omega] at this; exact this) (by omega) (fun m hm => hn m (List.mem_cons_of_mem _ hm)) q
    rw [List.map_cons, forD]
    simp [-forD]
    refine sp_common2 _ _ _ (by omega) ?_
    simpa [c1, c2, -forD] using this
theorem imp__law_multiple : ∀ ds Q, sp__law_multiple ds Q → ds.length = 1 ∧ wFn N__law_multiple wb__law_multiple ds Q := by
  rintro ds Q ⟨d, ns, rfl, h, hl, hn, q⟩
  refine ⟨rfl, ?_⟩
  simp [wb__law_multiple, N__law_multiple, -forD]
  refine iseq_ints h ?_
  exact multL_loop { nx := wRet (wVar 1) { nx := fun _ => Q .non, rt := Q }, rt := Q } (.val d) ns 0 1 .no (by decide) (by decide) (by omega) hn (fun s => by simpa [multI, lcmFold] using q)
theorem cal__law_multiple {P : Program} {w : World} {K : PySem.W.Frag} {mg : Str → Option Value} {base : Heap} {Z : Zc} (T : Txt P w K mg base Z) : Cal P w K mg base Z 2 "_law_multiple" sp__law_multiple :=
  cal_of T.d__law_multiple sc__law_multiple imp__law_multiple fun f cdv A outer s H E hr => b__law_multiple T f cdv A outer s H E hr
section
variable {P : Program} {w : World} {K : PySem.W.Frag} {mg : Str → Option Value} {base : Heap} {Z : Zc}
/-! ### _law_lowest -/
def N__law_lowest : List Str := ["_law_top", "_law_bottom", "_law_shared"]
theorem sc__law_lowest : FnScope N__law_lowest ["_law_top", "_law_bottom"] (defScope (topAt 81)) := ⟨rfl, rfl, rfl, by decide +kernel, rfl, by decide +kernel, by decide +kernel⟩
def wb__law_lowest : WS := (wSeq (wSet 2 (wOp aMul (wCall sp__law_common (wCons (wLst (wCons (wVar 0) (wCons (wVar 1) wNil))) wNil)) (wIfE (wTest (wOp aGt (wVar 1) (wC (.int 0)))) (wC (.int 1)) (wUn aNeg (wC (.int 1)))))) (wRet (wTup (wCons (wOp aDiv (wVar 0) (wVar 2)) (wCons (wOp aDiv (wVar 1) (wVar 2)) wNil)))))
theorem b__law_lowest (T : Txt P w K mg base Z) (f : Addr) (cdv : Value) (A : Around) (outer : List Env) (s : Shared) (H : Hp) (E : XK) (hr : Room 1 (A.deeper (envOfC "_law_lowest" (defScope (topAt 81)) s.heap.objs.size f cdv))) :
    PSs (cxOf CX0 P w K mg base N__law_lowest "_law_lowest" (defScope (topAt 81)) f cdv A outer s H E).nox (defBody (topAt 81)) (tS Z wb__law_lowest) :=
  (pds_cons (pd_set (i := 2) sc__law_lowest.nd rfl (.inl rfl) (pd_op op_mulW od_mul (pe_vw (pd_call (cal__law_common T) hr (by decide) rfl (pd_cons (pe_frz (pd_lst (pd_cons (pd_var (i := 0) rfl (.inl rfl)) (pd_cons (pd_var (i := 1) rfl (.inl rfl)) pd_nil)))) pd_nil))) (pe_vw (pd_ifE (pt_cmpD op_gt od_gt (pe_vw (pd_var (i := 1) rfl (.inl rfl))) (pe_vw pd_int)) pd_int (pd_un un_neg ud_neg (pe_vw pd_int))))))
    (pds_one (pd_ret (pd_tup (pd_cons (pd_op op_fdivW od_div (pe_vw (pd_var (i := 0) rfl (.inl rfl))) (pe_vw (pd_var (i := 2) rfl (.inl rfl)))) (pd_cons (pd_op op_fdivW od_div (pe_vw (pd_var (i := 1) rfl (.inl rfl))) (pe_vw (pd_var (i := 2) rfl (.inl rfl)))) pd_nil))))))
end
def sp__law_lowest : WL := fun ds Q => ∃ a b : Int, ds = [.int a, .int b] ∧ 0 ≤ a ∧ 0 < b ∧ b.natAbs < 2 ^ 9000 ∧ Q (pairD (lowP a b))
theorem imp__law_lowest : ∀ ds Q, sp__law_lowest ds Q → ds.length = 2 ∧ wFn N__law_lowest wb__law_lowest ds Q := by
  rintro ds Q ⟨a, b, rfl, ha, hb, h2, q⟩
  refine ⟨rfl, ?_⟩
  have hg : (gcdI a b).natAbs < 2 ^ 9000 := Nat.lt_of_le_of_lt (gcd_le_r (a := a) hb) h2
  have c : ∀ x, CDivW x (gcdI a b) := fun x => divW_of (b := 9000) (gcd_pos_r hb) hg
  have c1 : CMulW (gcdI a b) 1 := mulW_of (b := 1) hg (by decide)
  simp [wb__law_lowest, N__law_lowest]
  refine sp_common2 _ _ _ ha ?_
  simp [hb, c1, c]
  exact .inr q
theorem cal__law_lowest {P : Program} {w : World} {K : PySem.W.Frag} {mg : Str → Option Value} {base : Heap} {Z : Zc} (T : Txt P w K mg base Z) : Cal P w K mg base Z 2 "_law_lowest" sp__law_lowest :=
  cal_of T.d__law_lowest sc__law_lowest imp__law_lowest fun f cdv A outer s H E hr => b__law_lowest T f cdv A outer s H E hr
section
variable {P : Program} {w : World} {K : PySem.W.Frag} {mg : Str → Option Value} {base : Heap} {Z : Zc}
/-! ### _law_factorial -/
def N__law_factorial : List Str := ["_law_number", "_law_found", "_law_factor"]
theorem sc__law_factorial : FnScope N__law_factorial ["_law_number"] (defScope (topAt 82)) := ⟨rfl, rfl, rfl, by decide +kernel, rfl, by decide +kernel, by decide +kernel⟩
def wb__law_factorial : WS := (wSeq (wSet 1 (wC (.int 1))) (wSeq (wFor (wIR2 (wCons (wC (.int 2)) (wCons (wOp aAdd (wVar 0) (wC (.int 1))) wNil))) (gN 2) (wSet 1 (wOp aMul (wVar 1) (wVar 2)))) (wRet (wVar 1))))
theorem b__law_factorial (T : Txt P w K mg base Z) (f : Addr) (cdv : Value) (A : Around) (outer : List Env) (s : Shared) (H : Hp) (E : XK) (hr : Room 0 (A.deeper (envOfC "_law_factorial" (defScope (topAt 82)) s.heap.objs.size f cdv))) :
    PSs (cxOf CX0 P w K mg base N__law_factorial "_law_factorial" (defScope (topAt 82)) f cdv A outer s H E).nox (defBody (topAt 82)) (tS Z wb__law_factorial) :=
  (pds_cons (pd_set (i := 1) sc__law_factorial.nd rfl (.inl rfl) pd_int)
    (pds_cons (pd_for (pd_ir2 rfl T.h_range (pd_consV (pe_vw pd_int) (pd_consV (pe_vw (pd_op op_add od_add (pe_vw (pd_var (i := 0) rfl (.inl rfl))) (pe_vw pd_int))) pd_nil))) (pd_gn (i := 2) (is := [2]) (by decide) sc__law_factorial.nd rfl (.inl rfl)) (pds_one (pd_set (i := 1) sc__law_factorial.nd rfl (.inl rfl) (pd_op op_mulW od_mul (pe_vw (pd_var (i := 1) rfl (.inl rfl))) (pe_vw (pd_var (i := 2) rfl (.inl rfl)))))) PassesOwn.never rfl)
    (pds_one (pd_ret (pd_var (i := 1) rfl (.inl rfl))))))
end
def sp__law_factorial : WL := sp_factorial_of
theorem factL_loop (E : EndsD) (v : Sl) : ∀ (k m : Nat) (s : Sl), 1 ≤ m → m + k ≤ 600 → (∀ s, E.nx [v, .val (.int (factI (m + k))), s]) →
    forD (gN 2) (wSet 1 (wOp aMul (wVar 1) (wVar 2))) E (rngD (m + 1) k) [v, .val (.int (factI m)), s]
  | 0, m, s, _, _, q => by rw [rngD_zero]; simpa using q s
  | k + 1, m, s, h1, h2, q => by
    rw [rngD_succ]
    simp
    have hb : (factI m).natAbs < 2 ^ 6001 := by
      rcases factI_le m with h | h
      · exact Nat.lt_of_lt_of_le h (Nat.pow_le_pow_right (by decide) (by omega))
      · omega
    refine ⟨mulW_of (b := 10) hb (by omega), ?_⟩
    have := factL_loop E v k (m + 1) (.val (.int (m + 1))) (by omega) (by omega) (by rw [show m + 1 + k = m + (k + 1) by omega]; exact q)
    simpa [factI] using this
theorem imp__law_factorial : ∀ ds Q, sp__law_factorial ds Q → ds.length = 1 ∧ wFn N__law_factorial wb__law_factorial ds Q := by
  rintro ds Q ⟨n, rfl, h, q⟩
  refine ⟨rfl, ?_⟩
  simp [wb__law_factorial, N__law_factorial, -forD]
  refine ⟨by omega, ?_⟩
  cases n with
  | zero => simpa [rngD_zero, factI] using q
  | succ n =>
    have := factL_loop { nx := wRet (wVar 1) { nx := fun _ => Q .non, rt := Q }, rt := Q } (.val (.int ((n + 1 : Nat) : Int))) n 1 .no (by decide) (by omega) (fun s => by rw [show 1 + n = n + 1 by omega]; simpa using q)
    have e : ((((n + 1 : Nat) : Int) + 1 - 2).toNat) = n := by omega
    rw [e]
    simpa [factI] using this
theorem cal__law_factorial {P : Program} {w : World} {K : PySem.W.Frag} {mg : Str → Option Value} {base : Heap} {Z : Zc} (T : Txt P w K mg base Z) : Cal P w K mg base Z 1 "_law_factorial" sp__law_factorial :=
  cal_of T.d__law_factorial sc__law_factorial imp__law_factorial fun f cdv A outer s H E hr => b__law_factorial T f cdv A outer s H E hr
section
variable {P : Program} {w : World} {K : PySem.W.Frag} {mg : Str → Option Value} {base : Heap} {Z : Zc}
/-! ### _law_is_prime -/
def N__law_is_prime : List Str := ["_law_number", "_law_divisor"]
theorem sc__law_is_prime : FnScope N__law_is_prime ["_law_number"] (defScope (topAt 85)) := ⟨rfl, rfl, rfl, by decide +kernel, rfl, by decide +kernel, by decide +kernel⟩
def wb__law_is_prime : WS := (wSeq (wIf (wTest (wOp aLt (wVar 0) (wC (.int 2)))) (wRet (wC (.bl false))) wNext) (wSeq (wSet 1 (wC (.int 2))) (wSeq (wWhile (wTest (wOp aLe (wOp aMul (wVar 1) (wVar 1)) (wVar 0))) (wSeq (wIf (wTest (wOp (aEq false) (wOp aMod (wCall aInt (wCons (wVar 0) wNil)) (wVar 1)) (wC (.int 0)))) (wRet (wC (.bl false))) wNext) (wSet 1 (wOp aAdd (wVar 1) (wC (.int 1)))))) (wRet (wC (.bl true))))))
theorem b__law_is_prime (T : Txt P w K mg base Z) (f : Addr) (cdv : Value) (A : Around) (outer : List Env) (s : Shared) (H : Hp) (E : XK) (hr : Room 0 (A.deeper (envOfC "_law_is_prime" (defScope (topAt 85)) s.heap.objs.size f cdv))) :
    PSs (cxOf CX0 P w K mg base N__law_is_prime "_law_is_prime" (defScope (topAt 85)) f cdv A outer s H E).nox (defBody (topAt 85)) (tS Z wb__law_is_prime) :=
  (pds_cons (pd_if (pt_cmpD op_lt od_lt (pe_vw (pd_var (i := 0) rfl (.inl rfl))) (pe_vw pd_int)) (pds_one (pd_ret pd_bl)) pds_nil)
    (pds_cons (pd_set (i := 1) sc__law_is_prime.nd rfl (.inl rfl) pd_int)
    (pds_cons (pd_while (pt_cmpD op_le od_le (pe_vw (pd_op op_mulW od_mul (pe_vw (pd_var (i := 1) rfl (.inl rfl))) (pe_vw (pd_var (i := 1) rfl (.inl rfl))))) (pe_vw (pd_var (i := 0) rfl (.inl rfl)))) (pds_cons (pd_if (pt_cmpD (op_eqD hr.units) (od_eq T.z.k) (pe_vw (pd_op op_mod od_mod (pe_vw (pd_callTy cd_int call_int1 rfl T.h_int boot_int (pd_consV (pe_vw (pd_var (i := 0) rfl (.inl rfl))) pd_nil))) (pe_vw (pd_var (i := 1) rfl (.inl rfl))))) (pe_vw pd_int)) (pds_one (pd_ret pd_bl)) pds_nil)
    (pds_one (pd_set (i := 1) sc__law_is_prime.nd rfl (.inl rfl) (pd_op op_add od_add (pe_vw (pd_var (i := 1) rfl (.inl rfl))) (pe_vw pd_int))))) PassesOwn.never)
    (pds_one (pd_ret pd_bl)))))
end
def sp__law_is_prime : WL := fun ds Q => ∃ n : Int, ds = [.int n] ∧ n < 2 ^ 30 ∧ Q (.bl (prB n))
def LpI (n : Int) (env : En) : Prop := ∃ d : Int, env = [.val (.int n), .val (.int d)] ∧ 2 ≤ d ∧ d ≤ n + 2 ∧ ∀ k, 2 ≤ k → k < d → n % k ≠ 0
def LpM (n : Int) (env : En) : Nat := match (env[1]? : Option Sl) with
  | some (Sl.val (D.int d)) => (n + 3 - d).toNat
  | _ => 0
theorem imp__law_is_prime : ∀ ds Q, sp__law_is_prime ds Q → ds.length = 1 ∧ wFn N__law_is_prime wb__law_is_prime ds Q := by
  rintro ds Q ⟨n, rfl, hn, q⟩
  refine ⟨rfl, ?_⟩
  by_cases h2 : n < 2
  · have : prB n = false := by
      cases e : prB n with
      | false => rfl
      | true => have := (prB_iff.mp e).1; omega
    rw [this] at q
    simp [wb__law_is_prime, N__law_is_prime, h2, -wWhile]
    exact q
  · simp [wb__law_is_prime, N__law_is_prime, h2, -wWhile]
    refine ⟨LpI n, LpM n, ⟨2, rfl, by decide, by omega, fun k h1 h2 => by omega⟩, ?_⟩
    rintro env ⟨d, rfl, hd, hd2, hk⟩
    have c1 : CMulW d d := mulW_of (a := 31) (b := 31) (by omega) (by omega)
    by_cases hle : d * d ≤ n
    · by_cases hm : n % d = 0
      · have := composite hd hle hm
        rw [this] at q
        simp [c1, hle, hm, show 0 < d by omega]
        exact q
      · simp [c1, hle, hm, show 0 < d by omega]
        have hdn : d ≤ n := by
          have : d * 2 ≤ d * d := Int.mul_le_mul_of_nonneg_left hd (by omega)
          omega
        refine ⟨⟨d + 1, rfl, by omega, by omega, fun k h1 h2 => ?_⟩, ?_⟩
        · by_cases e : k = d
          · rw [e]; exact hm
          · exact hk k h1 (by omega)
        · show (n + 3 - (d + 1)).toNat < (n + 3 - d).toNat
          omega
    · have := prB_root (by omega) hd (by omega) hk
      rw [this] at q
      simp [c1, hle]
      exact q
theorem cal__law_is_prime {P : Program} {w : World} {K : PySem.W.Frag} {mg : Str → Option Value} {base : Heap} {Z : Zc} (T : Txt P w K mg base Z) : Cal P w K mg base Z 1 "_law_is_prime" sp__law_is_prime :=
  cal_of T.d__law_is_prime sc__law_is_prime imp__law_is_prime fun f cdv A outer s H E hr => b__law_is_prime T f cdv A outer s H E hr
section
variable {P : Program} {w : World} {K : PySem.W.Frag} {mg : Str → Option Value} {base : Heap} {Z : Zc}
/-! ### _law_next_prime -/
def N__law_next_prime : List Str := ["_law_number", "_law_found"]
theorem sc__law_next_prime : FnScope N__law_next_prime ["_law_number"] (defScope (topAt 86)) := ⟨rfl, rfl, rfl, by decide +kernel, rfl, by decide +kernel, by decide +kernel⟩
def wb__law_next_prime : WS := (wSeq (wSet 1 (wCall aMax2 (wCons (wC (.int 2)) (wCons (wVar 0) wNil)))) (wSeq (wWhile (wNot (wTest (wCall sp__law_is_prime (wCons (wVar 1) wNil)))) (wSet 1 (wOp aAdd (wVar 1) (wC (.int 1))))) (wRet (wVar 1))))
theorem b__law_next_prime (T : Txt P w K mg base Z) (f : Addr) (cdv : Value) (A : Around) (outer : List Env) (s : Shared) (H : Hp) (E : XK) (hr : Room 1 (A.deeper (envOfC "_law_next_prime" (defScope (topAt 86)) s.heap.objs.size f cdv))) :
    PSs (cxOf CX0 P w K mg base N__law_next_prime "_law_next_prime" (defScope (topAt 86)) f cdv A outer s H E).nox (defBody (topAt 86)) (tS Z wb__law_next_prime) :=
  (pds_cons (pd_set (i := 1) sc__law_next_prime.nd rfl (.inl rfl) (pd_callB cd_two (call_max2 rfl) rfl T.h_max boot_max (pd_consV (pe_vw pd_int) (pd_consV (pe_vw (pd_var (i := 0) rfl (.inl rfl))) pd_nil))))
    (pds_cons (pd_while (pt_notD (pt_valD (pd_call (cal__law_is_prime T) hr (by decide) rfl (pd_cons (pd_var (i := 1) rfl (.inl rfl)) pd_nil)))) (pds_one (pd_set (i := 1) sc__law_next_prime.nd rfl (.inl rfl) (pd_op op_add od_add (pe_vw (pd_var (i := 1) rfl (.inl rfl))) (pe_vw pd_int)))) PassesOwn.never)
    (pds_one (pd_ret (pd_var (i := 1) rfl (.inl rfl))))))
end
def sp__law_next_prime : WL := fun ds Q => ∃ n : Int, ds = [.int n] ∧ n ≤ 6607 ∧ ∀ p, prB p = true → n ≤ p → p ≤ 6607 → Q (.int p)
theorem prB_by {n : Int} (k : Nat) (hn : 2 ≤ n) (h : n < (2 + (k : Int)) * (2 + k)) (c : (rngI 2 k).all (fun d => decide (n % d ≠ 0)) = true) : prB n = true :=
  prB_root hn (by omega) h fun d h1 h2 => of_decide_eq_true (List.all_eq_true.mp c d (mem_rngI.mpr (by omega)))
theorem pr6607 : prB 6607 = true := prB_by 80 (by decide) (by decide) (by decide +kernel)
def NpI (n : Int) (env : En) : Prop := ∃ d : Int, env = [.val (.int n), .val (.int d)] ∧ 2 ≤ d ∧ n ≤ d ∧ d ≤ 6607
def NpM (env : En) : Nat := match (env[1]? : Option Sl) with
  | some (Sl.val (D.int d)) => (6608 - d).toNat
  | _ => 0
theorem imp__law_next_prime : ∀ ds Q, sp__law_next_prime ds Q → ds.length = 1 ∧ wFn N__law_next_prime wb__law_next_prime ds Q := by
  rintro ds Q ⟨n, rfl, hn, q⟩
  refine ⟨rfl, ?_⟩
  simp [wb__law_next_prime, N__law_next_prime, -wWhile]
  refine ⟨NpI n, NpM, ⟨_, rfl, by split <;> omega, by split <;> omega, by split <;> omega⟩, ?_⟩
  rintro env ⟨d, rfl, h1, h2, h3⟩
  simp
  refine ⟨d, rfl, by omega, ?_⟩
  cases hp : prB d with
  | true => simp; exact q d hp h2 h3
  | false =>
    simp
    have hne : d ≠ 6607 := fun e => by rw [e, pr6607] at hp; cases hp
    refine ⟨⟨d + 1, rfl, by omega, by omega, by omega⟩, ?_⟩
    show (6608 - (d + 1)).toNat < (6608 - d).toNat
    omega
theorem cal__law_next_prime {P : Program} {w : World} {K : PySem.W.Frag} {mg : Str → Option Value} {base : Heap} {Z : Zc} (T : Txt P w K mg base Z) : Cal P w K mg base Z 2 "_law_next_prime" sp__law_next_prime :=
  cal_of T.d__law_next_prime sc__law_next_prime imp__law_next_prime fun f cdv A outer s H E hr => b__law_next_prime T f cdv A outer s H E hr
end DL

namespace DL
open PySem PySem.Spec PyProof.Rows L2
section
variable {P : Program} {w : World} {K : PySem.W.Frag} {mg : Str → Option Value} {base : Heap} {Z : Zc}
/-! ### _law_number_of -/
def N__law_number_of : List Str := ["_law_tops", "_law_bottoms", "_law_number", "_law_above", "_law_below", "_law_member"]
theorem sc__law_number_of : FnScope N__law_number_of ["_law_tops", "_law_bottoms", "_law_number"] (defScope (topAt 83)) := ⟨rfl, rfl, rfl, by decide +kernel, rfl, by decide +kernel, by decide +kernel⟩
def wb__law_number_of : WS := (wSeq (wAsg (wTup (wCons (wC (.int 1)) (wCons (wC (.int 1)) wNil))) (gT 2 (gsC (gN 3) (gsC (gN 4) gsN)))) (wSeq (wFor (wIT (wVar 0)) (gN 5) (wSet 3 (wOp aMul (wVar 3) (wCall sp__law_factorial (wCons (wOp aMul (wVar 5) (wVar 2)) wNil))))) (wSeq (wFor (wIT (wVar 1)) (gN 5) (wSet 4 (wOp aMul (wVar 4) (wCall sp__law_factorial (wCons (wOp aMul (wVar 5) (wVar 2)) wNil))))) (wRet (wCall sp__law_lowest (wCons (wVar 3) (wCons (wVar 4) wNil)))))))
theorem b__law_number_of (T : Txt P w K mg base Z) (f : Addr) (cdv : Value) (A : Around) (outer : List Env) (s : Shared) (H : Hp) (E : XK) (hr : Room 2 (A.deeper (envOfC "_law_number_of" (defScope (topAt 83)) s.heap.objs.size f cdv))) :
    PSs (cxOf CX0 P w K mg base N__law_number_of "_law_number_of" (defScope (topAt 83)) f cdv A outer s H E).nox (defBody (topAt 83)) (tS Z wb__law_number_of) :=
  (pds_cons (pd_asg (pd_tup (pd_cons pd_int (pd_cons pd_int pd_nil))) (pd_gt (n := 2) T.z.k rfl (pd_gsc (pd_gn (i := 3) (is := [3, 4]) (by decide) sc__law_number_of.nd rfl (.inl rfl)) (pd_gsc (pd_gn (i := 4) (is := [3, 4]) (by decide) sc__law_number_of.nd rfl (.inl rfl)) pd_gsn))))
    (pds_cons (pd_for (pd_it T.z.k (pd_var (i := 0) rfl (.inl rfl))) (pd_gn (i := 5) (is := [5]) (by decide) sc__law_number_of.nd rfl (.inl rfl)) (pds_one (pd_set (i := 3) sc__law_number_of.nd rfl (.inl rfl) (pd_op op_mulW od_mul (pe_vw (pd_var (i := 3) rfl (.inl rfl))) (pe_vw (pd_call (cal__law_factorial T) hr (by decide) rfl (pd_cons (pd_op op_mulW od_mul (pe_vw (pd_var (i := 5) rfl (.inl rfl))) (pe_vw (pd_var (i := 2) rfl (.inl rfl)))) pd_nil)))))) PassesOwn.never rfl)
    (pds_cons (pd_for (pd_it T.z.k (pd_var (i := 1) rfl (.inl rfl))) (pd_gn (i := 5) (is := [5]) (by decide) sc__law_number_of.nd rfl (.inl rfl)) (pds_one (pd_set (i := 4) sc__law_number_of.nd rfl (.inl rfl) (pd_op op_mulW od_mul (pe_vw (pd_var (i := 4) rfl (.inl rfl))) (pe_vw (pd_call (cal__law_factorial T) hr (by decide) rfl (pd_cons (pd_op op_mulW od_mul (pe_vw (pd_var (i := 5) rfl (.inl rfl))) (pe_vw (pd_var (i := 2) rfl (.inl rfl)))) pd_nil)))))) PassesOwn.never rfl)
    (pds_one (pd_ret (pd_call (cal__law_lowest T) hr (by decide) rfl (pd_cons (pd_var (i := 3) rfl (.inl rfl)) (pd_cons (pd_var (i := 4) rfl (.inl rfl)) pd_nil))))))))
end
def sp__law_number_of : WL := fun ds Q => ∃ (ts bs : List Int) (n : Nat), ds = [.tup (ts.map D.int), .tup (bs.map D.int), .int n] ∧ Small ts bs ∧ maxL (ts ++ bs) * n ≤ 120 ∧ Q (pairD (lowP (prodF n ts) (prodF n bs)))
theorem prodL3 (E : EndsD) (v0 v1 v4 : Sl) (n : Nat) : ∀ (ms : List Int) (i : Nat) (f : Int) (s : Sl), f.natAbs < 2 ^ (670 * i + 1) → i + ms.length ≤ 8 → (∀ m ∈ ms, 1 ≤ m ∧ m ≤ 60 ∧ m * n ≤ 120) →
    (∀ s, E.nx [v0, v1, .val (.int n), .val (.int (ms.foldl (fun f m => f * factI (m * (n : Int)).toNat) f)), v4, s]) →
    forD (gN 5) (wSet 3 (wOp aMul (wVar 3) (wCall sp__law_factorial (wCons (wOp aMul (wVar 5) (wVar 2)) wNil)))) E (ms.map D.int) [v0, v1, .val (.int n), .val (.int f), v4, s]
  | [], i, f, s, _, _, _, q => q s
  | m :: ms, i, f, s, hb, hl, hm, q => by
    obtain ⟨m0, m60, m1⟩ := hm m List.mem_cons_self
    have n1 : (n : Int) ≤ 120 := by
      have := Int.mul_le_mul_of_nonneg_right m0 (show (0 : Int) ≤ n by omega)
      omega
    have hl : i + (ms.length + 1) ≤ 8 := hl
    have p0 : 0 ≤ m * n := Int.mul_nonneg (by omega) (by omega)
    have h1 := fact_bits (n := (m * (n : Int)).toNat) (by omega)
    have c1 : CMulW m n := mulW_of (a := 10) (b := 10) (by omega) (by omega)
    have c2 : CMulW f (factI (m * (n : Int)).toNat) := wide_mul hb h1 (by omega) (by decide) (by omega)
    have h2 := wide_lt hb h1
    rw [show 670 * i + 1 + 670 = 670 * (i + 1) + 1 by omega] at h2
    have := prodL3 E v0 v1 v4 n ms (i + 1) (f * factI (m * (n : Int)).toNat) (.val (.int m)) h2 (by omega) (fun k hk => hm k (List.mem_cons_of_mem _ hk)) q
    rw [List.map_cons, forD]
    simp [c1, -forD]
    exact sp_factorial_of_i _ p0 (by omega) (by simpa [c2, -forD] using this)
theorem prodL4 (E : EndsD) (v0 v1 v3 : Sl) (n : Nat) : ∀ (ms : List Int) (i : Nat) (f : Int) (s : Sl), f.natAbs < 2 ^ (670 * i + 1) → i + ms.length ≤ 8 → (∀ m ∈ ms, 1 ≤ m ∧ m ≤ 60 ∧ m * n ≤ 120) →
    (∀ s, E.nx [v0, v1, .val (.int n), v3, .val (.int (ms.foldl (fun f m => f * factI (m * (n : Int)).toNat) f)), s]) →
    forD (gN 5) (wSet 4 (wOp aMul (wVar 4) (wCall sp__law_factorial (wCons (wOp aMul (wVar 5) (wVar 2)) wNil)))) E (ms.map D.int) [v0, v1, .val (.int n), v3, .val (.int f), s]
  | [], i, f, s, _, _, _, q => q s
  | m :: ms, i, f, s, hb, hl, hm, q => by
    obtain ⟨m0, m60, m1⟩ := hm m List.mem_cons_self
    have n1 : (n : Int) ≤ 120 := by
      have := Int.mul_le_mul_of_nonneg_right m0 (show (0 : Int) ≤ n by omega)
      omega
    have hl : i + (ms.length + 1) ≤ 8 := hl
    have p0 : 0 ≤ m * n := Int.mul_nonneg (by omega) (by omega)
    have h1 := fact_bits (n := (m * (n : Int)).toNat) (by omega)
    have c1 : CMulW m n := mulW_of (a := 10) (b := 10) (by omega) (by omega)
    have c2 : CMulW f (factI (m * (n : Int)).toNat) := wide_mul hb h1 (by omega) (by decide) (by omega)
    have h2 := wide_lt hb h1
    rw [show 670 * i + 1 + 670 = 670 * (i + 1) + 1 by omega] at h2
    have := prodL4 E v0 v1 v3 n ms (i + 1) (f * factI (m * (n : Int)).toNat) (.val (.int m)) h2 (by omega) (fun k hk => hm k (List.mem_cons_of_mem _ hk)) q
    rw [List.map_cons, forD]
    simp [c1, -forD]
    exact sp_factorial_of_i _ p0 (by omega) (by simpa [c2, -forD] using this)
theorem imp__law_number_of : ∀ ds Q, sp__law_number_of ds Q → ds.length = 3 ∧ wFn N__law_number_of wb__law_number_of ds Q := by
  rintro ds Q ⟨ts, bs, n, rfl, h, hn, q⟩
  refine ⟨rfl, ?_⟩
  obtain ⟨k1, k2⟩ := h.le_max hn
  simp [wb__law_number_of, N__law_number_of, -forD]
  refine prodL3 _ _ _ _ n ts 0 1 .no (by decide) (by have := h.2.1; omega) k1 fun s => ?_
  simp [-forD]
  refine prodL4 _ _ _ _ n bs 0 1 s (by decide) (by have := h.2.2.1; omega) k2 fun s => ?_
  simp
  exact ⟨_, _, rfl, Int.le_of_lt (prodF_pos n ts 1 (by decide)), prodF_pos n bs 1 (by decide), prodF_small n bs h.2.2.1 k2, q⟩
theorem cal__law_number_of {P : Program} {w : World} {K : PySem.W.Frag} {mg : Str → Option Value} {base : Heap} {Z : Zc} (T : Txt P w K mg base Z) : Cal P w K mg base Z 3 "_law_number_of" sp__law_number_of :=
  cal_of T.d__law_number_of sc__law_number_of imp__law_number_of fun f cdv A outer s H E hr => b__law_number_of T f cdv A outer s H E hr
section
variable {P : Program} {w : World} {K : PySem.W.Frag} {mg : Str → Option Value} {base : Heap} {Z : Zc}
/-! ### _law_depth -/
def N__law_depth : List Str := ["_law_tops", "_law_bottoms", "_law_ratio", "_law_top", "_law_bottom", "_law_member"]
theorem sc__law_depth : FnScope N__law_depth ["_law_tops", "_law_bottoms", "_law_ratio"] (defScope (topAt 87)) := ⟨rfl, rfl, rfl, by decide +kernel, rfl, by decide +kernel, by decide +kernel⟩
def wb__law_depth : WS := (wSeq (wAsg (wVar 2) (gT 2 (gsC (gN 3) (gsC (gN 4) gsN)))) (wRet (wOp aSub (wCall aSum (wCons (wLc (wIT (wVar 0)) (gN 5) wYes (wOp aDiv (wOp aMul (wVar 5) (wVar 3)) (wVar 4)) [5]) wNil)) (wCall aSum (wCons (wLc (wIT (wVar 1)) (gN 5) wYes (wOp aDiv (wOp aMul (wVar 5) (wVar 3)) (wVar 4)) [5]) wNil)))))
theorem b__law_depth (T : Txt P w K mg base Z) (f : Addr) (cdv : Value) (A : Around) (outer : List Env) (s : Shared) (H : Hp) (E : XK) (hr : Room 0 (A.deeper (envOfC "_law_depth" (defScope (topAt 87)) s.heap.objs.size f cdv))) :
    PSs (cxOf CX0 P w K mg base N__law_depth "_law_depth" (defScope (topAt 87)) f cdv A outer s H E).nox (defBody (topAt 87)) (tS Z wb__law_depth) :=
  (pds_cons (pd_asg (pd_var (i := 2) rfl (.inl rfl)) (pd_gt (n := 2) T.z.k rfl (pd_gsc (pd_gn (i := 3) (is := [3, 4]) (by decide) sc__law_depth.nd rfl (.inr rfl)) (pd_gsc (pd_gn (i := 4) (is := [3, 4]) (by decide) sc__law_depth.nd rfl (.inr rfl)) pd_gsn))))
    (pds_one (pd_ret (pd_op op_sub od_sub (pe_vw (pd_callB (cd_sum T.z.k) (sum_any rfl) rfl T.h_sum boot_sum (pd_consV (pe_nv (pd_lc (own := [("_law_member", 5)]) (is := [5]) rfl sc__law_depth.nd (pd_it T.z.k (pd_var (i := 0) rfl (.inl rfl))) (blkOk_by (N := N__law_depth) (sc := defScope (topAt 87)) (by decide +kernel)) (fun _ _ _ _ _ => (pd_gn (i := 5) (is := [5]) (by decide) sc__law_depth.nd rfl (.inl rfl))) (fun _ _ _ _ _ => pd_yes) (fun _ _ _ _ _ => (pd_op op_fdivW od_div (pe_vw (pd_op op_mulW od_mul (pe_vw (pd_var (i := 5) rfl (.inl rfl))) (pe_vw (pd_var (i := 3) rfl (.inr (.inl rfl)))))) (pe_vw (pd_var (i := 4) rfl (.inr (.inl rfl)))))) (by decide))) pd_nil))) (pe_vw (pd_callB (cd_sum T.z.k) (sum_any rfl) rfl T.h_sum boot_sum (pd_consV (pe_nv (pd_lc (own := [("_law_member", 5)]) (is := [5]) rfl sc__law_depth.nd (pd_it T.z.k (pd_var (i := 1) rfl (.inl rfl))) (blkOk_by (N := N__law_depth) (sc := defScope (topAt 87)) (by decide +kernel)) (fun _ _ _ _ _ => (pd_gn (i := 5) (is := [5]) (by decide) sc__law_depth.nd rfl (.inl rfl))) (fun _ _ _ _ _ => pd_yes) (fun _ _ _ _ _ => (pd_op op_fdivW od_div (pe_vw (pd_op op_mulW od_mul (pe_vw (pd_var (i := 5) rfl (.inl rfl))) (pe_vw (pd_var (i := 3) rfl (.inr (.inl rfl)))))) (pe_vw (pd_var (i := 4) rfl (.inr (.inl rfl)))))) (by decide))) pd_nil)))))))
end
def sp__law_depth : WL := fun ds Q => ∃ (ts bs : List Int) (p : Int × Int), ds = [.tup (ts.map D.int), .tup (bs.map D.int), pairD p] ∧ Small ts bs ∧ 0 ≤ p.1 ∧ p.1 < 2 ^ 20 ∧ 1 ≤ p.2 ∧ p.2 < 2 ^ 20 ∧ Q (.int (floors ts p.1 p.2 - floors bs p.1 p.2))
theorem sum_divsD {n q : Int} {env : En} {ms : List Int} {K : D → Prop} (h2 : env[3]? = some (.val (.int n))) (h4 : env[4]? = some (.val (.int q))) (h6 : 5 < env.length) (hn : n.natAbs < 2 ^ 20) (hq : 0 < q) (hq2 : q.natAbs < 2 ^ 20)
    (hm : ∀ m ∈ ms, 1 ≤ m ∧ m ≤ 60) (hl : ms.length ≤ 8) (k : K (.int (floors ms n q))) :
    lcD (gN 5) wYes (wOp aDiv (wOp aMul (wVar 5) (wVar 3)) (wVar 4)) env (fun acc => aSum [.lst acc] K) (ms.map D.int) [] := by
  refine lc_map D.int (fun m => .int (m * n / q)) ms (fun m hm' K1 k1 => ?_) (by have := size_big; omega) ?_
  · obtain ⟨a, b⟩ := hm m hm'
    have c1 : CMulW m n := mulW_of (a := 6) (b := 20) (by omega) hn
    have c2 : CDivW (m * n) q := divW_of hq hq2
    have e2 : (env.set 5 (.val (.int m)))[3]? = some (.val (.int n)) := by rw [List.getElem?_set_ne (by decide)]; exact h2
    have e4 : (env.set 5 (.val (.int m)))[4]? = some (.val (.int q)) := by rw [List.getElem?_set_ne (by decide)]; exact h4
    have e6 : (env.set 5 (.val (.int m)))[5]? = some (.val (.int m)) := List.getElem?_set_self h6
    show wOp aDiv (wOp aMul (wVar 5) (wVar 3)) (wVar 4) (env.set 5 (.val (.int m))) K1
    exact ⟨_, e6, _, e2, c1, _, e4, c2, k1⟩
  · have e : ms.map (fun m => D.int (m * n / q)) = (ms.map fun m => m * n / q).map D.int := by rw [List.map_map]; rfl
    rw [e]
    exact aOver_l _ _ _ k
theorem imp__law_depth : ∀ ds Q, sp__law_depth ds Q → ds.length = 3 ∧ wFn N__law_depth wb__law_depth ds Q := by
  rintro ds Q ⟨ts, bs, p, rfl, h, a, b, c, d, q⟩
  refine ⟨rfl, ?_⟩
  simp [wb__law_depth, N__law_depth, pairD, -aOver, -lcD]
  refine sum_divsD (n := p.1) (q := p.2) rfl rfl (by simp) (by omega) (by omega) (by omega) (fun m hm => h.1 m (List.mem_append_left _ hm)) h.2.1 ?_
  refine sum_divsD (n := p.1) (q := p.2) rfl rfl (by simp) (by omega) (by omega) (by omega) (fun m hm => h.1 m (List.mem_append_right _ hm)) h.2.2.1 ?_
  simpa using q
theorem cal__law_depth {P : Program} {w : World} {K : PySem.W.Frag} {mg : Str → Option Value} {base : Heap} {Z : Zc} (T : Txt P w K mg base Z) : Cal P w K mg base Z 1 "_law_depth" sp__law_depth :=
  cal_of T.d__law_depth sc__law_depth imp__law_depth fun f cdv A outer s H E hr => b__law_depth T f cdv A outer s H E hr
section
variable {P : Program} {w : World} {K : PySem.W.Frag} {mg : Str → Option Value} {base : Heap} {Z : Zc}
/-! ### _law_by_size -/
def N__law_by_size : List Str := ["_law_ratios", "_law_whole", "_law_ratio", "_law_size"]
theorem sc__law_by_size : FnScope N__law_by_size ["_law_ratios"] (defScope (topAt 88)) := ⟨rfl, rfl, rfl, by decide +kernel, rfl, by decide +kernel, by decide +kernel⟩
def wb__law_by_size : WS := (wSeq (wSet 1 (wCall sp__law_multiple (wCons (wLc (wIL (wVar 0)) (gN 2) wYes (wOp aIx (wVar 2) (wC (.int 1))) [2]) wNil))) (wRet (wLc (wIL (wSortIP (wLc (wIL (wVar 0)) (gN 2) wYes (wTup (wCons (wOp aMul (wOp aIx (wVar 2) (wC (.int 0))) (wOp aDiv (wVar 1) (wOp aIx (wVar 2) (wC (.int 1))))) (wCons (wVar 2) wNil))) [2]))) (gT 2 (gsC (gN 3) (gsC (gN 2) gsN))) wYes (wVar 2) [3, 2])))
theorem b__law_by_size (T : Txt P w K mg base Z) (f : Addr) (cdv : Value) (A : Around) (outer : List Env) (s : Shared) (H : Hp) (E : XK) (hr : Room 2 (A.deeper (envOfC "_law_by_size" (defScope (topAt 88)) s.heap.objs.size f cdv))) :
    PSs (cxOf CX0 P w K mg base N__law_by_size "_law_by_size" (defScope (topAt 88)) f cdv A outer s H E).nox (defBody (topAt 88)) (tS Z wb__law_by_size) :=
  (pds_cons (pd_set (i := 1) sc__law_by_size.nd rfl (.inr rfl) (pd_call (cal__law_multiple T) hr (by decide) rfl (pd_cons (pe_frz (pd_lc (own := [("_law_ratio", 2)]) (is := [2]) rfl sc__law_by_size.nd (pd_il (pd_var (i := 0) rfl (.inl rfl))) (blkOk_by (N := N__law_by_size) (sc := defScope (topAt 88)) (by decide +kernel)) (fun _ _ _ _ _ => (pd_gn (i := 2) (is := [2]) (by decide) sc__law_by_size.nd rfl (.inl rfl))) (fun _ _ _ _ _ => pd_yes) (fun _ _ _ _ _ => (pd_ix T.z.k (pe_vw (pd_var (i := 2) rfl (.inl rfl))) (pe_vw pd_int))) (by decide))) pd_nil)))
    (pds_one (pd_ret (pe_frz (pd_lc (own := [("_law_size", 3), ("_law_ratio", 2)]) (is := [3, 2]) rfl sc__law_by_size.nd (pd_il (pe_frz (pd_sortIP T.z.k rfl T.h_sorted (pe_nv (pd_lc (own := [("_law_ratio", 2)]) (is := [2]) rfl sc__law_by_size.nd (pd_il (pd_var (i := 0) rfl (.inl rfl))) (blkOk_by (N := N__law_by_size) (sc := defScope (topAt 88)) (by decide +kernel)) (fun _ _ _ _ _ => (pd_gn (i := 2) (is := [2]) (by decide) sc__law_by_size.nd rfl (.inl rfl))) (fun _ _ _ _ _ => pd_yes) (fun _ _ _ _ _ => (pd_tup (pd_cons (pd_op op_mulW od_mul (pe_vw (pd_ix T.z.k (pe_vw (pd_var (i := 2) rfl (.inl rfl))) (pe_vw pd_int))) (pe_vw (pd_op op_fdivW od_div (pe_vw (pd_var (i := 1) rfl (.inr (.inl rfl)))) (pe_vw (pd_ix T.z.k (pe_vw (pd_var (i := 2) rfl (.inl rfl))) (pe_vw pd_int)))))) (pd_cons (pd_var (i := 2) rfl (.inl rfl)) pd_nil)))) (by decide)))))) (blkOk_by (N := N__law_by_size) (sc := defScope (topAt 88)) (by decide +kernel)) (fun _ _ _ _ _ => (pd_gt (n := 2) T.z.k rfl (pd_gsc (pd_gn (i := 3) (is := [3, 2]) (by decide) sc__law_by_size.nd rfl (.inl rfl)) (pd_gsc (pd_gn (i := 2) (is := [3, 2]) (by decide) sc__law_by_size.nd rfl (.inl rfl)) pd_gsn)))) (fun _ _ _ _ _ => pd_yes) (fun _ _ _ _ _ => (pd_var (i := 2) rfl (.inl rfl))) (by decide))))))
end
def sizeP (W : Int) (p : Int × Int) : Int := p.1 * (W / p.2)
def sp__law_by_size : WL := fun ds Q => ∃ ps : List (Int × Int), ds = [.lst (ps.map pairD)] ∧ ps.length ≤ 1000 ∧ (∀ p ∈ ps, 0 ≤ p.1 ∧ p.1 < 2 ^ 20 ∧ 1 ≤ p.2 ∧ p.2 < 2 ^ 20) ∧ multI (ps.map (·.2)) < 2 ^ 20 ∧ (ps.map (sizeP (multI (ps.map (·.2))))).Nodup ∧
  ∀ qs : List (Int × Int), qs.Perm ps → (qs.map (sizeP (multI (ps.map (·.2))))).Pairwise (· ≤ ·) → Q (.lst (qs.map pairD))
theorem imp__law_by_size : ∀ ds Q, sp__law_by_size ds Q → ds.length = 1 ∧ wFn N__law_by_size wb__law_by_size ds Q := by
  rintro ds Q ⟨ps, rfl, hl, hp, hW, hnd, q⟩
  refine ⟨rfl, ?_⟩
  have hsz : ps.length ≤ sizeLine := by have := size_big; omega
  simp [wb__law_by_size, N__law_by_size, -lcD, -aIx]
  refine lc_map pairD (fun p => .int p.2) ps (fun p hp' K1 k1 => ?_) hsz ?_
  · simp [-aIx]
    exact ⟨_, 1, .int p.2, rfl, rfl, atI1 _ _ _, k1⟩
  · have e : ps.map (fun p => D.int p.2) = (ps.map (·.2)).map D.int := by rw [List.map_map]; rfl
    rw [e]
    refine ⟨_, ps.map (·.2), rfl, isInts_l _, by rw [List.length_map]; omega, fun n hn => ?_, ?_⟩
    · obtain ⟨p, hp', rfl⟩ := List.mem_map.mp hn
      obtain ⟨a, b, c, d⟩ := hp p hp'
      exact ⟨c, d⟩
    · have hW1 : 1 ≤ multI (ps.map (·.2)) := multI_pos fun n hn => by
        obtain ⟨p, hp', rfl⟩ := List.mem_map.mp hn
        exact (hp p hp').2.2.1
      simp [-lcD, -aIx, -List.map_map]
      refine lc_map pairD (fun p => sizedD (sizeP (multI (ps.map (·.2))) p, p)) ps (fun p hp' K1 k1 => ?_) hsz ?_
      · obtain ⟨a, b, c, d⟩ := hp p hp'
        have c1 : CDivW (multI (ps.map (·.2))) p.2 := divW_of (b := 20) (by omega) (by omega)
        have hq := Int.ediv_nonneg (a := multI (ps.map (·.2))) (b := p.2) (by omega) (by omega)
        have hq2 := Int.ediv_le_self p.2 (show 0 ≤ multI (ps.map (·.2)) by omega)
        have c2 : CMulW p.1 (multI (ps.map (·.2)) / p.2) := mulW_of (a := 20) (b := 20) (by omega) (by omega)
        simp [-aIx, -List.map_map]
        refine ⟨_, 0, .int p.1, rfl, rfl, atI0 _ _, ?_⟩
        refine ⟨_, 1, .int p.2, rfl, rfl, atI1 _ _ _, ?_⟩
        simp [c1, c2, -List.map_map]
        exact k1
      · refine ⟨ps.map fun p => (sizeP (multI (ps.map (·.2))) p, p), by rw [List.map_map]; rfl, by rw [List.map_map]; exact hnd, fun ys hy hs => ?_⟩
        have hys : ys = (ys.map (·.2)).map fun p => (sizeP (multI (ps.map (·.2))) p, p) := by
          rw [List.map_map]
          conv => lhs; rw [← List.map_id ys]
          apply List.map_congr_left
          intro y hy'
          obtain ⟨p, hp', rfl⟩ := List.mem_map.mp (hy.mem_iff.mp hy')
          rfl
        refine lc_map sizedD (fun y => pairD y.2) ys (fun y hy' K1 k1 => ?_) (by rw [hy.length_eq, List.length_map]; exact hsz) ?_
        · simp [sizedD, -aIx]
          exact k1
        · have e2 : ys.map (fun y => pairD y.2) = (ys.map (·.2)).map pairD := by rw [List.map_map]; rfl
          rw [e2]
          have hperm : (ys.map (·.2)).Perm ps := by
            have := hy.map (·.2)
            rw [List.map_map] at this
            have e3 : ps.map ((fun x : Int × Int × Int => x.2) ∘ fun p => (sizeP (multI (ps.map (·.2))) p, p)) = ps := by
              conv => rhs; rw [← List.map_id ps]
              rfl
            rw [e3] at this
            exact this
          refine q _ hperm ?_
          have e4 : ys.map (·.1) = (ys.map (·.2)).map (sizeP (multI (ps.map (·.2)))) := by
            conv => lhs; rw [hys]
            rw [List.map_map]; rfl
          rw [← e4]; exact hs
theorem cal__law_by_size {P : Program} {w : World} {K : PySem.W.Frag} {mg : Str → Option Value} {base : Heap} {Z : Zc} (T : Txt P w K mg base Z) : Cal P w K mg base Z 3 "_law_by_size" sp__law_by_size :=
  cal_of T.d__law_by_size sc__law_by_size imp__law_by_size fun f cdv A outer s H E hr => b__law_by_size T f cdv A outer s H E hr
end DL

namespace DL
open PySem PySem.Spec PyProof.Rows L2
/-! ### the law's own stairs -/
theorem gcdI_scale {a q g : Int} (hg : 1 ≤ g) : gcdI (a * g) (q * g) = gcdI a q * g := by
  unfold gcdI
  rw [Int.natAbs_mul, Int.natAbs_mul, Nat.gcd_mul_right, Int.natCast_mul, Int.natAbs_of_nonneg (by omega : 0 ≤ g)]
theorem lowP_scale {a q g : Int} (hg : 1 ≤ g) : lowP (a * g) (q * g) = lowP a q := by
  unfold lowP
  rw [gcdI_scale hg, Int.mul_ediv_mul_of_pos_left _ _ (by omega), Int.mul_ediv_mul_of_pos_left _ _ (by omega)]
theorem gcdI_low {i C : Int} (hC : 1 ≤ C) : gcdI (lowP i C).1 (lowP i C).2 = 1 := by
  obtain ⟨g1, g2, g3⟩ := lowP_mul (i := i) hC
  have hg := gcdI_pos (i := i) hC
  have e := gcdI_scale (a := (lowP i C).1) (q := (lowP i C).2) hg
  rw [g1, g2] at e
  have e2 : gcdI (lowP i C).1 (lowP i C).2 * gcdI i C = 1 * gcdI i C := by omega
  exact Int.eq_of_mul_eq_mul_right (by omega) e2
theorem lowP_low {i C : Int} (hC : 1 ≤ C) : lowP (lowP i C).1 (lowP i C).2 = lowP i C := by
  have e := gcdI_low (i := i) hC
  show ((lowP i C).1 / gcdI (lowP i C).1 (lowP i C).2, (lowP i C).2 / gcdI (lowP i C).1 (lowP i C).2) = _
  rw [e, Int.ediv_one, Int.ediv_one]
theorem size_low {i C : Int} (hC : 1 ≤ C) : sizeP C (lowP i C) = i := by
  obtain ⟨g1, g2, g3⟩ := lowP_mul (i := i) hC
  unfold sizeP
  have : C / (lowP i C).2 = gcdI i C := by
    have key : ∀ q g C : Int, q * g = C → 1 ≤ q → C / q = g := fun q g C e h => by
      subst e; exact Int.mul_ediv_cancel_left _ (by omega)
    exact key _ _ _ g2 g3
  rw [this, g1]
theorem floors_low {i C : Int} (ms : List Int) (hC : 1 ≤ C) : floors ms (lowP i C).1 (lowP i C).2 = floors ms i C := by
  obtain ⟨g1, g2, g3⟩ := lowP_mul (i := i) hC
  have hg := gcdI_pos (i := i) hC
  unfold floors
  congr 1
  apply List.map_congr_left
  intro m _
  have key : ∀ a q g i C : Int, a * g = i → q * g = C → 1 ≤ g → m * a / q = m * i / C := fun a q g i C e1 e2 h => by
    subst e1; subst e2
    rw [← Int.mul_assoc, Int.mul_ediv_mul_of_pos_left _ _ (by omega)]
  exact key _ _ _ _ _ g1 g2 hg
def sb (ts bs : List Int) (i : Int) : Bool := decide (i = 0) || (ts ++ bs).any fun m => decide (m % (lowP i (multI (ts ++ bs))).2 = 0)
theorem sb_iff {ts bs : List Int} {i : Int} : sb ts bs i = true ↔ i = 0 ∨ ∃ m ∈ ts ++ bs, m % (lowP i (multI (ts ++ bs))).2 = 0 := by
  unfold sb
  rw [Bool.or_eq_true, decide_eq_true_eq, List.any_eq_true]
  constructor
  · rintro (h | ⟨m, hm, h⟩)
    · exact .inl h
    · exact .inr ⟨m, hm, of_decide_eq_true h⟩
  · rintro (h | ⟨m, hm, h⟩)
    · exact .inl h
    · exact .inr ⟨m, hm, decide_eq_true h⟩
def spotsOf (m : Int) : List (Int × Int) := (rngI 1 (m - 1).toNat).map fun k => lowP k m
def spotsAll (ms : List Int) : List (Int × Int) := (0, 1) :: ms.flatMap spotsOf
theorem lt_of_mul {a b g : Int} (hg : 1 ≤ g) (h : a * g < b * g) : a < b := by
  by_cases z : a < b
  · exact z
  · have := Int.mul_le_mul_of_nonneg_right (show b ≤ a by omega) (show 0 ≤ g by omega)
    omega
theorem mul_lt {a b g : Int} (hg : 1 ≤ g) (h : a < b) : a * g < b * g := Int.mul_lt_mul_of_pos_right h (by omega)
theorem in_spots {ts bs ms : List Int} (h : Good ts bs) (hms : ∀ x, x ∈ ms ↔ x ∈ ts ++ bs) (p : Int × Int) : p ∈ spotsAll ms ↔ ∃ i, 0 ≤ i ∧ i < multI (ts ++ bs) ∧ sb ts bs i = true ∧ p = lowP i (multI (ts ++ bs)) := by
  have hC := h.C1
  unfold spotsAll
  rw [List.mem_cons, List.mem_flatMap]
  constructor
  · rintro (rfl | ⟨m, hm, hp⟩)
    · exact ⟨0, by decide, by omega, sb_iff.mpr (.inl rfl), (lowP_zero hC).symm⟩
    · have hm' := (hms m).mp hm
      have m1 := h.pos m hm'
      obtain ⟨c, hc⟩ := multI_dvd h.pos hm'
      have c1 : 1 ≤ c := by
        by_cases z : 1 ≤ c
        · exact z
        · have := Int.mul_le_mul_of_nonneg_left (show c ≤ 0 by omega) (show 0 ≤ m by omega)
          omega
      obtain ⟨k, hk, rfl⟩ := List.mem_map.mp hp
      have hk := mem_rngI.mp hk
      have e : lowP (k * c) (multI (ts ++ bs)) = lowP k m := by rw [hc]; exact lowP_scale c1
      refine ⟨k * c, Int.mul_nonneg (by omega) (by omega), by rw [hc]; exact mul_lt c1 (by omega), sb_iff.mpr (.inr ⟨m, hm', ?_⟩), e.symm⟩
      rw [e]
      exact Int.emod_eq_zero_of_dvd ⟨gcdI k m, (lowP_mul m1).2.1.symm⟩
  · rintro ⟨i, h0, h1, h2, rfl⟩
    by_cases hi : i = 0
    · subst hi; exact .inl (lowP_zero hC)
    · rcases sb_iff.mp h2 with h2 | ⟨m, hm, hd⟩
      · exact absurd h2 hi
      · obtain ⟨g1, g2, g3⟩ := lowP_mul (i := i) hC
        have hg := gcdI_pos (i := i) hC
        have m1 := h.pos m hm
        obtain ⟨e, he⟩ := Int.dvd_of_emod_eq_zero hd
        have e1 : 1 ≤ e := by
          by_cases z : 1 ≤ e
          · exact z
          · have := Int.mul_le_mul_of_nonneg_left (show e ≤ 0 by omega) (show 0 ≤ (lowP i (multI (ts ++ bs))).2 by omega)
            omega
        have a1 : 0 < (lowP i (multI (ts ++ bs))).1 := lt_of_mul hg (by omega)
        have a2 : (lowP i (multI (ts ++ bs))).1 < (lowP i (multI (ts ++ bs))).2 := lt_of_mul hg (by omega)
        refine .inr ⟨m, (hms m).mpr hm, List.mem_map.mpr ⟨(lowP i (multI (ts ++ bs))).1 * e, mem_rngI.mpr ⟨?_, ?_⟩, ?_⟩⟩
        · have := Int.mul_le_mul (show 1 ≤ (lowP i (multI (ts ++ bs))).1 by omega) e1 (by decide) (by omega)
          simpa using this
        · have := mul_lt e1 a2
          rw [← he] at this
          omega
        · conv => lhs; arg 2; rw [he]
          rw [lowP_scale e1, lowP_low hC]
theorem nodup_len {α : Type} [DecidableEq α] : ∀ {xs ys : List α}, xs.Nodup → (∀ x ∈ xs, x ∈ ys) → xs.length ≤ ys.length
  | [], _, _, _ => Nat.zero_le _
  | x :: xs, ys, nd, h => by
    obtain ⟨h1, h2⟩ := List.nodup_cons.mp nd
    have hx := h x List.mem_cons_self
    have := nodup_len (ys := ys.erase x) h2 fun y hy => (List.mem_erase_of_ne (fun e => h1 (by rw [← e]; exact hy))).mpr (h y (List.mem_cons_of_mem _ hy))
    rw [List.length_erase_of_mem hx] at this
    have := List.length_pos_of_mem hx
    rw [List.length_cons]; omega
theorem spots_len : ∀ (ms : List Int), (∀ m ∈ ms, m ≤ 60) → (ms.flatMap spotsOf).length ≤ 59 * ms.length
  | [], _ => by simp
  | m :: ms, h => by
    have := spots_len ms fun k hk => h k (List.mem_cons_of_mem _ hk)
    have h1 := h m List.mem_cons_self
    have h2 : (spotsOf m).length ≤ 59 := by unfold spotsOf; rw [List.length_map, rngI_len]; omega
    rw [List.flatMap_cons, List.length_append, List.length_cons]; omega
theorem low_one {m : Int} (hm : 1 ≤ m) : lowP 1 m = (1, m) := by
  have : gcdI 1 m = 1 := by unfold gcdI; simp
  unfold lowP; rw [this, Int.ediv_one, Int.ediv_one]
/-- the common denominator is the members' multiple -/
theorem whole_of {ts bs ms : List Int} (h : Good ts bs) (hms : ∀ x, x ∈ ms ↔ x ∈ ts ++ bs) {ps : List (Int × Int)} (hps : ∀ p, p ∈ ps ↔ p ∈ spotsAll ms) : multI (ps.map (·.2)) = multI (ts ++ bs) := by
  have hC := h.C1
  have hd : ∀ n ∈ ps.map (·.2), 1 ≤ n ∧ n ∣ multI (ts ++ bs) := fun n hn => by
    obtain ⟨p, hp, rfl⟩ := List.mem_map.mp hn
    obtain ⟨i, h0, h1, _, rfl⟩ := (in_spots h hms p).mp ((hps p).mp hp)
    obtain ⟨g1, g2, g3⟩ := lowP_mul (i := i) hC
    exact ⟨g3, ⟨_, g2.symm⟩⟩
  have d1 : multI (ps.map (·.2)) ∣ multI (ts ++ bs) := multI_least (fun n hn => (hd n hn).1) fun n hn => (hd n hn).2
  have p1 := multI_pos fun n hn => (hd n hn).1
  have d2 : multI (ts ++ bs) ∣ multI (ps.map (·.2)) := multI_least h.pos fun m hm => by
    have m1 := h.pos m hm
    by_cases e : m = 1
    · subst e; exact Int.one_dvd _
    · refine multI_dvd (fun n hn => (hd n hn).1) (List.mem_map.mpr ⟨(1, m), (hps _).mpr (List.mem_cons_of_mem _ (List.mem_flatMap.mpr ⟨m, (hms m).mpr hm, List.mem_map.mpr ⟨1, mem_rngI.mpr (by omega), low_one m1⟩⟩)), rfl⟩)
  have := Int.le_of_dvd (by omega) d1
  have := Int.le_of_dvd (by omega) d2
  omega
/-- the places in their order -/
theorem places_sorted {ts bs ms : List Int} (h : Good ts bs) (hms : ∀ x, x ∈ ms ↔ x ∈ ts ++ bs) {ps : List (Int × Int)} (nd : ps.Nodup) (hps : ∀ p, p ∈ ps ↔ p ∈ spotsAll ms) :
    (ps.map (sizeP (multI (ts ++ bs)))).Nodup ∧ ∀ qs : List (Int × Int), qs.Perm ps → (qs.map (sizeP (multI (ts ++ bs)))).Pairwise (· ≤ ·) → qs = ((rngI 0 (multI (ts ++ bs)).toNat).filter (sb ts bs)).map fun i => lowP i (multI (ts ++ bs)) := by
  have hC := h.C1
  have inj : ∀ p ∈ ps, lowP (sizeP (multI (ts ++ bs)) p) (multI (ts ++ bs)) = p := fun p hp => by
    obtain ⟨i, h0, h1, _, rfl⟩ := (in_spots h hms p).mp ((hps p).mp hp)
    rw [size_low hC]
  have nd2 : (ps.map (sizeP (multI (ts ++ bs)))).Nodup := by
    unfold List.Nodup
    rw [List.pairwise_map]
    refine List.Pairwise.imp_of_mem (fun {a b} ha hb hab e => hab ?_) nd
    rw [← inj a ha, ← inj b hb, e]
  refine ⟨nd2, fun qs hq hs => ?_⟩
  have e : qs.map (sizeP (multI (ts ++ bs))) = (rngI 0 (multI (ts ++ bs)).toNat).filter (sb ts bs) := by
    refine sorted_ext (strict_of hs ((hq.map _).nodup_iff.mpr nd2)) ((rngI_sorted 0 _).sublist List.filter_sublist) fun i => ?_
    rw [List.mem_map, List.mem_filter, mem_rngI]
    constructor
    · rintro ⟨p, hp, rfl⟩
      obtain ⟨i, h0, h1, h2, rfl⟩ := (in_spots h hms p).mp ((hps p).mp (hq.mem_iff.mp hp))
      rw [size_low hC]
      exact ⟨by omega, h2⟩
    · rintro ⟨h1, h2⟩
      exact ⟨lowP i (multI (ts ++ bs)), hq.mem_iff.mpr ((hps _).mpr ((in_spots h hms _).mpr ⟨i, by omega, by omega, h2, rfl⟩)), size_low hC⟩
  rw [← e, List.map_map]
  conv => lhs; rw [← List.map_id qs]
  apply List.map_congr_left
  intro p hp
  exact (inj p (hq.mem_iff.mp hp)).symm
theorem sb_dep {ts bs : List Int} (h : Good ts bs) {i : Int} (hi : sb ts bs i = false) : depI ts bs i = depI ts bs (i - 1) := by
  have hd := dep_step h.pos i
  by_cases hj : jmp ts bs (lowP i (multI (ts ++ bs))).2 = 0
  · omega
  · obtain ⟨m, hm, hdv⟩ := jmp_dvd hj
    rw [sb_iff.mpr (.inr ⟨m, hm, Int.emod_eq_zero_of_dvd hdv⟩)] at hi
    cases hi
/-! comparing lists of stairs -/
theorem plains_stairs : ∀ xs : List ((Int × Int) × Int), plains (xs.map stairD) = true
  | [] => rfl
  | s :: r => by show (D.plain (stairD s) && plains (r.map stairD)) = true; rw [plains_stairs r]; rfl
theorem canLay_stairs : ∀ xs : List ((Int × Int) × Int), PyData.canLayAll0 (pys (xs.map stairD)) = true
  | [] => rfl
  | s :: r => by show (PyData.canLay0 (stairD s).py && PyData.canLayAll0 (pys (r.map stairD))) = true; rw [canLay_stairs r]; rfl
theorem depth_stairs : ∀ xs : List ((Int × Int) × Int), PyData.depthAll (pys (xs.map stairD)) ≤ 3
  | [] => by decide
  | s :: r => by
    have := depth_stairs r
    show max (PyData.depth (stairD s).py) (PyData.depthAll (pys (r.map stairD))) ≤ 3
    have e : PyData.depth (stairD s).py ≤ 3 := by
      show max (max 0 (max 0 0) + 1) (max 0 0) + 1 ≤ 3
      decide
    omega
theorem cmp_stairs (xs : List ((Int × Int) × Int)) : (D.lst (xs.map stairD)).cmp := by
  refine ⟨plains_stairs xs, ?_⟩
  show (PyData.canLayAll0 (pys (xs.map stairD)) && decide (PyData.depthAll (pys (xs.map stairD)) + 1 ≤ 64)) = true
  have := depth_stairs xs
  rw [canLay_stairs, decide_eq_true (by omega)]; rfl
theorem eqv_stairs (xs : List ((Int × Int) × Int)) : PyData.eqv (D.lst (xs.map stairD)).py (D.lst []).py = decide (xs = []) := by
  cases xs with
  | nil => rfl
  | cons s r => rfl
end DL

namespace DL
open PySem PySem.Spec PyProof.Rows L2
theorem atI_last {α : Type} (xs : List α) (x : α) : atI (xs ++ [x]) (-1) = some x := by
  unfold atI ixN
  rw [if_neg (by decide), if_pos (by rw [List.length_append, List.length_singleton]; omega)]
  show (xs ++ [x])[((-1 : Int) + ((xs ++ [x]).length : Nat)).toNat]? = some x
  rw [show ((-1 : Int) + ((xs ++ [x]).length : Nat)).toNat = xs.length by rw [List.length_append, List.length_singleton]; omega]
  simp
theorem ite_t {b : Bool} {p q : Prop} (h : b = true) (k : p) : if b = true then p else q := by rw [if_pos h]; exact k
theorem ite_f {b : Bool} {p q : Prop} (h : b = false) (k : q) : if b = true then p else q := by rw [if_neg (by rw [h]; decide)]; exact k
section
variable {P : Program} {w : World} {K : PySem.W.Frag} {mg : Str → Option Value} {base : Heap} {Z : Zc}
/-! ### _law_stairs -/
def N__law_stairs : List Str := ["_law_tops", "_law_bottoms", "_law_spots", "_law_member", "_law_part", "_law_found", "_law_place", "_law_here"]
theorem sc__law_stairs : FnScope N__law_stairs ["_law_tops", "_law_bottoms"] (defScope (topAt 89)) := ⟨rfl, rfl, rfl, by decide +kernel, rfl, by decide +kernel, by decide +kernel⟩
def wb__law_stairs : WS := (wSeq (wSetN 2 (wLst (wCons (wTup (wCons (wC (.int 0)) (wCons (wC (.int 1)) wNil))) wNil))) (wSeq (wFor (wIL (wSortSetI (wOp aCat (wCall aList (wCons (wVar 0) wNil)) (wCall aList (wCons (wVar 1) wNil))))) (gN 3) (wExt 2 (wLc (wIR2 (wCons (wC (.int 1)) (wCons (wVar 3) wNil))) (gN 4) wYes (wCall sp__law_lowest (wCons (wVar 4) (wCons (wVar 3) wNil))) [4]))) (wSeq (wSetN 5 (wLst wNil)) (wSeq (wFor (wIL (wCall sp__law_by_size (wCons (wSortSetP (wOwn 2)) wNil))) (gN 6) (wSeq (wSet 7 (wCall sp__law_depth (wCons (wVar 0) (wCons (wVar 1) (wCons (wVar 6) wNil))))) (wIf (wOr (wTest (wOp (aEq false) (wOwn 5) (wLst wNil))) (wTest (wOp (aEq true) (wOp aIx (wOp aIx (wOwn 5) (wUn aNeg (wC (.int 1)))) (wC (.int 1))) (wVar 7)))) (wApp 5 (wTup (wCons (wVar 6) (wCons (wVar 7) wNil)))) wNext))) (wRetOwn 5)))))
theorem b__law_stairs (T : Txt P w K mg base Z) (f : Addr) (cdv : Value) (A : Around) (outer : List Env) (s : Shared) (H : Hp) (E : XK) (hr : Room 3 (A.deeper (envOfC "_law_stairs" (defScope (topAt 89)) s.heap.objs.size f cdv))) :
    PSs (cxOf CX0 P w K mg base N__law_stairs "_law_stairs" (defScope (topAt 89)) f cdv A outer s H E).nox (defBody (topAt 89)) (tS Z wb__law_stairs) :=
  (pds_cons (pd_setN (i := 2) sc__law_stairs.nd rfl (.inl rfl) (pd_lst (pd_cons (pd_tup (pd_cons pd_int (pd_cons pd_int pd_nil))) pd_nil)))
    (pds_cons (pd_for (pd_il (pe_frz (pd_sortSetI T.z.k rfl rfl T.h_sorted rfl T.h_set (pe_nv (pd_op op_cat od_cat (pe_nv (pd_callTy (cd_list T.z.k) call_list_of rfl T.h_list boot_list (pd_consV (pe_vw (pd_var (i := 0) rfl (.inl rfl))) pd_nil))) (pe_nv (pd_callTy (cd_list T.z.k) call_list_of rfl T.h_list boot_list (pd_consV (pe_vw (pd_var (i := 1) rfl (.inl rfl))) pd_nil)))))))) (pd_gn (i := 3) (is := [3]) (by decide) sc__law_stairs.nd rfl (.inr rfl)) (pds_one (pd_ext (j := 2) rfl (.inl rfl) (pe_frz (pd_lc (own := [("_law_part", 4)]) (is := [4]) rfl sc__law_stairs.nd (pd_ir2 rfl T.h_range (pd_consV (pe_vw pd_int) (pd_consV (pe_vw (pd_var (i := 3) rfl (.inr (.inl rfl)))) pd_nil))) (blkOk_by (N := N__law_stairs) (sc := defScope (topAt 89)) (by decide +kernel)) (fun _ _ _ _ _ => (pd_gn (i := 4) (is := [4]) (by decide) sc__law_stairs.nd rfl (.inl rfl))) (fun _ _ _ _ _ => pd_yes) (fun _ _ _ _ _ => (pd_call (cal__law_lowest T) hr (by decide) rfl (pd_cons (pd_var (i := 4) rfl (.inl rfl)) (pd_cons (pd_var (i := 3) rfl (.inr (.inl rfl))) pd_nil)))) (by decide))))) PassesOwn.never rfl)
    (pds_cons (pd_setN (i := 5) sc__law_stairs.nd rfl (.inl rfl) (pd_lst pd_nil))
    (pds_cons (pd_for (pd_il (pd_call (cal__law_by_size T) hr (by decide) rfl (pd_cons (pe_frz (pd_sortSetP T.z.k rfl hr.units rfl T.h_sorted rfl T.h_set (pd_own (i := 2) rfl (.inl rfl)))) pd_nil))) (pd_gn (i := 6) (is := [6]) (by decide) sc__law_stairs.nd rfl (.inl rfl)) (pds_cons (pd_set (i := 7) sc__law_stairs.nd rfl (.inl rfl) (pd_call (cal__law_depth T) hr (by decide) rfl (pd_cons (pd_var (i := 0) rfl (.inl rfl)) (pd_cons (pd_var (i := 1) rfl (.inl rfl)) (pd_cons (pd_var (i := 6) rfl (.inl rfl)) pd_nil)))))
    (pds_one (pd_if (PW.pt (pw_orD (pt_cmpD (op_eqD hr.units) (od_eq T.z.k) (pd_own (i := 5) rfl (.inl rfl)) (pe_nv (pd_lst pd_nil))) (pw_or1D (pt_cmpD (op_neD hr.units) (od_ne T.z.k) (pe_vw (pd_ix T.z.k (pe_vw (pd_ix T.z.k (pd_own (i := 5) rfl (.inl rfl)) (pe_vw (pd_un un_neg ud_neg (pe_vw pd_int))))) (pe_vw pd_int))) (pe_vw (pd_var (i := 7) rfl (.inl rfl))))))) (pds_one (pd_app (j := 5) rfl (.inl rfl) (pd_tup (pd_cons (pd_var (i := 6) rfl (.inl rfl)) (pd_cons (pd_var (i := 7) rfl (.inl rfl)) pd_nil))))) pds_nil))) PassesOwn.never rfl)
    (pds_one (pd_retOwn (i := 5) rfl (.inl rfl)))))))
end
def sp__law_stairs : WL := fun ds Q => ∃ (ts bs : List Int), ds = [.tup (ts.map D.int), .tup (bs.map D.int)] ∧ Good ts bs ∧ Q (.lst ((stairsL ts bs).map stairD))
theorem spot_loop (E : EndsD) (v0 v1 s5 s6 s7 : Sl) : ∀ (ms : List Int) (acc : List (Int × Int)) (s3 s4 : Sl), (∀ m ∈ ms, 1 ≤ m ∧ m ≤ 60) → acc.length + 60 * ms.length ≤ 2000 →
    (∀ s3 s4, E.nx [v0, v1, .own (.lst ((acc ++ ms.flatMap spotsOf).map pairD)), s3, s4, s5, s6, s7]) →
    forD (gN 3) (wExt 2 (wLc (wIR2 (wCons (wC (.int 1)) (wCons (wVar 3) wNil))) (gN 4) wYes (wCall sp__law_lowest (wCons (wVar 4) (wCons (wVar 3) wNil))) [4])) E (ms.map D.int) [v0, v1, .own (.lst (acc.map pairD)), s3, s4, s5, s6, s7]
  | [], acc, s3, s4, _, _, q => by simpa using q s3 s4
  | m :: ms, acc, s3, s4, hm, hl, q => by
    have hm1 := hm m List.mem_cons_self
    have hl : acc.length + 60 * (ms.length + 1) ≤ 2000 := hl
    have h2 : (spotsOf m).length ≤ 59 := by unfold spotsOf; rw [List.length_map, rngI_len]; omega
    have z := spot_loop E v0 v1 s5 s6 s7 ms (acc ++ spotsOf m) (.val (.int m)) s4 (fun k hk => hm k (List.mem_cons_of_mem _ hk)) (by rw [List.length_append]; omega) (fun s3 s4 => by
      have := q s3 s4
      rw [List.flatMap_cons, ← List.append_assoc] at this
      exact this)
    rw [List.map_cons, forD]
    simp [-forD, -lcD]
    rw [rngD_eq, show m.toNat - 1 = (m - 1).toNat by omega]
    refine ⟨by omega, ?_⟩
    refine lc_map D.int (fun k => pairD (lowP k m)) (rngI 1 (m - 1).toNat) (fun k hk K1 k1 => ?_) (by have := size_big; rw [rngI_len]; omega) ?_
    · have hk := mem_rngI.mp hk
      simp
      exact ⟨k, m, rfl, by omega, by omega, Nat.lt_of_lt_of_le (show m.natAbs < 2 ^ 20 by omega) (Nat.pow_le_pow_right (by decide) (by decide)), k1⟩
    · refine ⟨?_, ?_⟩
      · have := size_big
        rw [List.length_map, rngI_len]; omega
      · have e : (rngI 1 (m - 1).toNat).map (fun k => pairD (lowP k m)) = (spotsOf m).map pairD := by unfold spotsOf; rw [List.map_map]; rfl
        rw [e, ← List.map_append]
        exact z
theorem dedupe_loop {ts bs : List Int} (h : Good ts bs) (E : EndsD) (v2 s3 s4 : Sl) : ∀ (k : Nat) (a : Int) (pre : List ((Int × Int) × Int)) (p : Int × Int) (s6 s7 : Sl), 0 ≤ a → a + k ≤ multI (ts ++ bs) → pre.length + 1 + k ≤ 1000000 →
    (∀ s6 s7, E.nx [.val (.tup (ts.map D.int)), .val (.tup (bs.map D.int)), v2, s3, s4, .own (.lst ((pre ++ [(p, depI ts bs (a - 1))]).map stairD ++ (chg ts bs a k).map (stepD ts bs))), s6, s7]) →
    forD (gN 6) (wSeq (wSet 7 (wCall sp__law_depth (wCons (wVar 0) (wCons (wVar 1) (wCons (wVar 6) wNil))))) (wIf (wOr (wTest (wOp (aEq false) (wOwn 5) (wLst wNil))) (wTest (wOp (aEq true) (wOp aIx (wOp aIx (wOwn 5) (wUn aNeg (wC (.int 1)))) (wC (.int 1))) (wVar 7)))) (wApp 5 (wTup (wCons (wVar 6) (wCons (wVar 7) wNil)))) wNext)) E
      (((rngI a k).filter (sb ts bs)).map fun i => pairD (lowP i (multI (ts ++ bs)))) [.val (.tup (ts.map D.int)), .val (.tup (bs.map D.int)), v2, s3, s4, .own (.lst ((pre ++ [(p, depI ts bs (a - 1))]).map stairD)), s6, s7]
  | 0, a, pre, p, s6, s7, _, _, _, q => by
    have := q s6 s7
    simpa [chg, rngI, -List.map_append] using this
  | k + 1, a, pre, p, s6, s7, ha, hc, hl, q => by
    have hC := h.C1
    rw [rngI_succ, List.filter_cons]
    rw [chg_succ] at q
    by_cases hs : sb ts bs a = true
    · rw [if_pos hs, List.map_cons, forD]
      obtain ⟨b1, b2, b3, b4⟩ := low_bounds hC h.2 ha (show a < multI (ts ++ bs) by omega)
      have h2 := h.2
      have hd : floors ts (lowP a (multI (ts ++ bs))).1 (lowP a (multI (ts ++ bs))).2 - floors bs (lowP a (multI (ts ++ bs))).1 (lowP a (multI (ts ++ bs))).2 = depI ts bs a := by rw [floors_low ts hC, floors_low bs hC]; rfl
      simp only [wSeq, wSet, wCall, wCons, wVar, wNil, gN]
      refine ⟨_, rfl, _, rfl, _, rfl, ts, bs, lowP a (multI (ts ++ bs)), rfl, h.1, b1, by omega, b3, by omega, ?_⟩
      rw [hd]
      have hne : pre ++ [(p, depI ts bs (a - 1))] ≠ [] := by simp
      simp only [wIf, wOr, wTest, wOp, aEq, wOwn, wLst, wNil]
      refine ⟨_, rfl, by decide, cmp_stairs _, cmp_stairs [], _, rfl, ?_⟩
      rw [eqv_stairs]
      rw [decide_eq_false hne]
      simp only [Bool.false_eq_true, if_false, reduceIte]
      refine ⟨_, rfl, _, -1, stairD (p, depI ts bs (a - 1)), rfl, rfl, ?_, ?_⟩
      · rw [List.map_append]; exact atI_last _ _
      · refine ⟨_, 1, .int (depI ts bs (a - 1)), rfl, rfl, atI1 _ _ _, _, rfl, cmp_int _, cmp_int _, _, rfl, ?_⟩
        rw [eqv_int]
        by_cases e : depI ts bs a ≠ depI ts bs (a - 1)
        · rw [if_pos e] at q
          rw [if_pos (by simp; omega)]
          refine ⟨_, rfl, _, rfl, _, rfl, sz2.mpr trivial, ?_, ?_⟩
          · have := size_big
            rw [List.length_map, List.length_append, List.length_singleton]; omega
          · have z := dedupe_loop h E v2 s3 s4 k (a + 1) (pre ++ [(p, depI ts bs (a - 1))]) (lowP a (multI (ts ++ bs))) (.val (pairD (lowP a (multI (ts ++ bs))))) (.val (.int (depI ts bs a))) (by omega) (by omega) (by simp; omega)
            rw [show a + 1 - 1 = a by omega] at z
            have := z fun s6 s7 => by
              have := q s6 s7
              rw [List.map_cons] at this
              rw [List.map_append (l₁ := pre ++ [_]), List.append_assoc]
              exact this
            rw [List.map_append (l₁ := pre ++ [_])] at this
            exact this
        · rw [if_neg e] at q
          have e' : depI ts bs a = depI ts bs (a - 1) := by omega
          rw [if_neg (by simp; omega)]
          have z := dedupe_loop h E v2 s3 s4 k (a + 1) pre p (.val (pairD (lowP a (multI (ts ++ bs))))) (.val (.int (depI ts bs a))) (by omega) (by omega) (by omega)
          rw [show a + 1 - 1 = a by omega, e'] at z
          rw [e']
          exact z q
    · have hs' : sb ts bs a = false := by simpa using hs
      have e' := sb_dep h hs'
      rw [if_neg hs]
      rw [if_neg (by omega)] at q
      have z := dedupe_loop h E v2 s3 s4 k (a + 1) pre p s6 s7 (by omega) (by omega) (by omega)
      rw [show a + 1 - 1 = a by omega, e'] at z
      exact z q
theorem imp__law_stairs : ∀ ds Q, sp__law_stairs ds Q → ds.length = 2 ∧ wFn N__law_stairs wb__law_stairs ds Q := by
  rintro ds Q ⟨ts, bs, rfl, h, q⟩
  refine ⟨rfl, ?_⟩
  have hC := h.C1
  have hC2 := h.2
  simp [wb__law_stairs, N__law_stairs, -forD, -lcD]
  refine ⟨h.1.sz, ts ++ bs, by rw [List.map_append], by have := h.1.len; omega, fun ms nd ss hm => ?_⟩
  have hm60 : ∀ m ∈ ms, 1 ≤ m ∧ m ≤ 60 := fun m hm' => h.1.1 m ((hm m).mp hm')
  have hml := nodup_len nd fun m hm' => (hm m).mp hm'
  have hl16 := h.1.len
  refine spot_loop _ _ _ _ _ _ ms [(0, 1)] _ _ hm60 (by simp; omega) fun s3 s4 => ?_
  have hsl := spots_len ms fun m hm' => (hm60 m hm').2
  have esp : [((0 : Int), (1 : Int))] ++ ms.flatMap spotsOf = spotsAll ms := rfl
  rw [esp]
  have hbd : ∀ p ∈ spotsAll ms, 0 ≤ p.1 ∧ p.1 < 64 ∧ 1 ≤ p.2 ∧ p.2 < 64 := fun p hp => by
    rcases List.mem_cons.mp hp with rfl | hp
    · decide
    · obtain ⟨m, hm', hp⟩ := List.mem_flatMap.mp hp
      obtain ⟨k, hk, rfl⟩ := List.mem_map.mp hp
      have hk := mem_rngI.mp hk
      obtain ⟨m1, m2⟩ := hm60 m hm'
      have d1 : (lowP k m).1 ≤ k := Int.ediv_le_self _ (by omega)
      have d2 : (lowP k m).2 ≤ m := Int.ediv_le_self _ (by omega)
      have d3 : 0 ≤ (lowP k m).1 := Int.ediv_nonneg (by omega) (by have := gcdI_pos (i := k) m1; omega)
      have d4 := (lowP_mul (i := k) m1).2.2
      omega
  have hsa : (spotsAll ms).length ≤ 1000 := by unfold spotsAll; rw [List.length_cons]; omega
  simp only [wSeq, wSetN, wLst, wNil, wFor, wIL, wCall, wCons, wSortSetP, wOwn]
  refine ⟨by decide, _, rfl, spotsAll ms, rfl, hsa, fun p hp => by have := hbd p hp; omega, fun ps nd2 hps => ?_⟩
  have hW := whole_of h hm hps
  obtain ⟨nd3, hqs⟩ := places_sorted h hm nd2 hps
  have hpl := nodup_len nd2 fun p hp => (hps p).mp hp
  refine ⟨ps, rfl, by omega, fun p hp => ?_, by rw [hW]; omega, by rw [hW]; exact nd3, fun qs hp hs => ?_⟩
  · have := hbd p ((hps p).mp hp)
    omega
  · rw [hW] at hs
    rw [hqs qs hp hs]
    obtain ⟨c, hc⟩ : ∃ c : Nat, (multI (ts ++ bs)).toNat = c + 1 := ⟨(multI (ts ++ bs)).toNat - 1, by omega⟩
    rw [hc, rngI_succ, List.filter_cons, if_pos (sb_iff.mpr (.inl rfl)), List.map_cons, List.map_cons, List.map_map]
    refine ⟨_, rfl, ?_⟩
    rw [forD]
    simp only [wSeq, wSet, wCall, wCons, wVar, wNil, gN]
    refine ⟨_, rfl, _, rfl, _, rfl, ts, bs, lowP 0 (multI (ts ++ bs)), rfl, h.1, ?_⟩
    rw [floors_low ts hC, floors_low bs hC, lowP_zero hC, floors_zero, floors_zero]
    refine ⟨by decide, by decide, by decide, by decide, ?_⟩
    simp only [wIf, wOr, wTest, wOp, aEq, wOwn, wLst, wNil]
    refine ⟨_, rfl, by decide, cmp_stairs [], cmp_stairs [], _, rfl, ?_⟩
    rw [if_pos (by rfl), if_pos trivial]
    refine ⟨_, rfl, _, rfl, _, rfl, sz2.mpr trivial, Nat.lt_of_lt_of_le (show 0 < 1000000 by decide) size_big, ?_⟩
    have z := dedupe_loop h { nx := wRetOwn 5 { nx := fun _ => Q .non, rt := Q }, rt := Q } (.own (.lst ((spotsAll ms).map pairD))) s3 s4 c 1 [] (0, 1) (.val (pairD (0, 1))) (.val (.int 0)) (by decide) (by omega) (by simp; omega)
    rw [show (1 : Int) - 1 = 0 by decide, dep_zero] at z
    refine z fun s6 s7 => ⟨_, rfl, ?_⟩
    rw [stairs_eq h, show (multI (ts ++ bs) - 1).toNat = c by omega] at q
    exact q
theorem cal__law_stairs {P : Program} {w : World} {K : PySem.W.Frag} {mg : Str → Option Value} {base : Heap} {Z : Zc} (T : Txt P w K mg base Z) : Cal P w K mg base Z 4 "_law_stairs" sp__law_stairs :=
  cal_of T.d__law_stairs sc__law_stairs imp__law_stairs fun f cdv A outer s H E hr => b__law_stairs T f cdv A outer s H E hr
section
variable {P : Program} {w : World} {K : PySem.W.Frag} {mg : Str → Option Value} {base : Heap} {Z : Zc}
/-! ### _law_is_whole -/
def N__law_is_whole : List Str := ["_law_tops", "_law_bottoms", "_law_place", "_law_here"]
theorem sc__law_is_whole : FnScope N__law_is_whole ["_law_tops", "_law_bottoms"] (defScope (topAt 90)) := ⟨rfl, rfl, rfl, by decide +kernel, rfl, by decide +kernel, by decide +kernel⟩
def wb__law_is_whole : WS := (wRet (wAndV (wOp aGe (wCall aSum (wCons (wVar 0) wNil)) (wCall aSum (wCons (wVar 1) wNil))) (wOp aGe (wCall aMin (wCons (wLc (wIL (wCall sp__law_stairs (wCons (wVar 0) (wCons (wVar 1) wNil)))) (gT 2 (gsC (gN 2) (gsC (gN 3) gsN))) wYes (wVar 3) [2, 3]) wNil)) (wC (.int 0)))))
theorem b__law_is_whole (T : Txt P w K mg base Z) (f : Addr) (cdv : Value) (A : Around) (outer : List Env) (s : Shared) (H : Hp) (E : XK) (hr : Room 4 (A.deeper (envOfC "_law_is_whole" (defScope (topAt 90)) s.heap.objs.size f cdv))) :
    PSs (cxOf CX0 P w K mg base N__law_is_whole "_law_is_whole" (defScope (topAt 90)) f cdv A outer s H E).nox (defBody (topAt 90)) (tS Z wb__law_is_whole) :=
  (pds_one (pd_ret (pd_and (pd_cmp op_ge od_ge (pe_vw (pd_callB (cd_sum T.z.k) (sum_any rfl) rfl T.h_sum boot_sum (pd_consV (pe_vw (pd_var (i := 0) rfl (.inl rfl))) pd_nil))) (pe_vw (pd_callB (cd_sum T.z.k) (sum_any rfl) rfl T.h_sum boot_sum (pd_consV (pe_vw (pd_var (i := 1) rfl (.inl rfl))) pd_nil)))) (pd_one (pd_cmp op_ge od_ge (pe_vw (pd_callB (cd_min T.z.k) (min_any rfl (hu_of hr)) rfl T.h_min boot_min (pd_consV (pe_nv (pd_lc (own := [("_law_place", 2), ("_law_here", 3)]) (is := [2, 3]) rfl sc__law_is_whole.nd (pd_il (pd_call (cal__law_stairs T) hr (by decide) rfl (pd_cons (pd_var (i := 0) rfl (.inl rfl)) (pd_cons (pd_var (i := 1) rfl (.inl rfl)) pd_nil)))) (blkOk_by (N := N__law_is_whole) (sc := defScope (topAt 90)) (by decide +kernel)) (fun _ _ _ _ _ => (pd_gt (n := 2) T.z.k rfl (pd_gsc (pd_gn (i := 2) (is := [2, 3]) (by decide) sc__law_is_whole.nd rfl (.inl rfl)) (pd_gsc (pd_gn (i := 3) (is := [2, 3]) (by decide) sc__law_is_whole.nd rfl (.inl rfl)) pd_gsn)))) (fun _ _ _ _ _ => pd_yes) (fun _ _ _ _ _ => (pd_var (i := 3) rfl (.inl rfl))) (by decide))) pd_nil))) (pe_vw pd_int))))))
end
def sp__law_is_whole : WL := fun ds Q => ∃ (ts bs : List Int), ds = [.tup (ts.map D.int), .tup (bs.map D.int)] ∧ Good ts bs ∧ Q (.bl (decide (bs.sum ≤ ts.sum) && decide (0 ≤ minD ts bs)))
theorem imp__law_is_whole : ∀ ds Q, sp__law_is_whole ds Q → ds.length = 2 ∧ wFn N__law_is_whole wb__law_is_whole ds Q := by
  rintro ds Q ⟨ts, bs, rfl, h, q⟩
  refine ⟨rfl, ?_⟩
  have hsz := stairs_len h
  simp only [wFn, wb__law_is_whole, wRet, wAndV, wOp, wCall, wCons, wVar, wNil]
  refine ⟨_, rfl, aOver_t _ _ _ ⟨_, rfl, aOver_t _ _ _ ⟨_, rfl, ?_⟩⟩⟩
  by_cases hx : bs.sum ≤ ts.sum
  · rw [decide_eq_true hx] at q ⊢
    rw [if_pos rfl]
    simp only [wLc, wIL, wCall, wCons, wVar, wNil]
    refine ⟨_, rfl, _, rfl, ts, bs, rfl, h, _, rfl, ?_⟩
    refine lc_map stairD (fun s => .int s.2) (stairsL ts bs) (fun s hs K1 k1 => ?_) (by have := size_big; omega) ?_
    · simpa [stairD, N__law_is_whole] using k1
    · have e : (stairsL ts bs).map (fun s => D.int s.2) = ((stairsL ts bs).map (·.2)).map D.int := by rw [List.map_map]; rfl
      rw [e]
      refine aOver_l _ _ _ ⟨stairs_ne ts bs, ?_⟩
      exact q
  · rw [decide_eq_false hx] at q ⊢
    rw [if_neg (by decide)]
    exact q
theorem cal__law_is_whole {P : Program} {w : World} {K : PySem.W.Frag} {mg : Str → Option Value} {base : Heap} {Z : Zc} (T : Txt P w K mg base Z) : Cal P w K mg base Z 5 "_law_is_whole" sp__law_is_whole :=
  cal_of T.d__law_is_whole sc__law_is_whole imp__law_is_whole fun f cdv A outer s H E hr => b__law_is_whole T f cdv A outer s H E hr
section
variable {P : Program} {w : World} {K : PySem.W.Frag} {mg : Str → Option Value} {base : Heap} {Z : Zc}
/-! ### _law_fault_due -/
def N__law_fault_due : List Str := ["_law_tops", "_law_bottoms", "_law_told", "_law_at", "_law_start", "_law_here"]
theorem sc__law_fault_due : FnScope N__law_fault_due ["_law_tops", "_law_bottoms"] (defScope (topAt 91)) := ⟨rfl, rfl, rfl, by decide +kernel, rfl, by decide +kernel, by decide +kernel⟩
def wb__law_fault_due : WS := (wSeq (wSet 2 (wCall sp__law_stairs (wCons (wVar 0) (wCons (wVar 1) wNil)))) (wSeq (wFor (wIEnum (wVar 2)) (gT 2 (gsC (gN 3) (gsC (gT 2 (gsC (gN 4) (gsC (gN 5) gsN))) gsN))) (wIf (wTest (wOp aLt (wVar 5) (wC (.int 0)))) (wRet (wTup (wCons (wC (.str "stair")) (wCons (wVar 4) (wCons (wIfE (wTest (wOp aLt (wOp aAdd (wVar 3) (wC (.int 1))) (wCall aLen (wCons (wVar 2) wNil)))) (wOp aIx (wOp aIx (wVar 2) (wOp aAdd (wVar 3) (wC (.int 1)))) (wC (.int 0))) (wTup (wCons (wC (.int 1)) (wCons (wC (.int 1)) wNil)))) (wCons (wVar 5) wNil)))))) wNext)) (wRet (wIfE (wTest (wOp aLt (wCall aSum (wCons (wVar 0) wNil)) (wCall aSum (wCons (wVar 1) wNil)))) (wTup (wCons (wC (.str "excess")) (wCons (wOp aSub (wCall aSum (wCons (wVar 0) wNil)) (wCall aSum (wCons (wVar 1) wNil))) wNil))) (wC .non)))))
theorem b__law_fault_due (T : Txt P w K mg base Z) (f : Addr) (cdv : Value) (A : Around) (outer : List Env) (s : Shared) (H : Hp) (E : XK) (hr : Room 4 (A.deeper (envOfC "_law_fault_due" (defScope (topAt 91)) s.heap.objs.size f cdv))) :
    PSs (cxOf CX0 P w K mg base N__law_fault_due "_law_fault_due" (defScope (topAt 91)) f cdv A outer s H E).nox (defBody (topAt 91)) (tS Z wb__law_fault_due) :=
  (pds_cons (pd_set (i := 2) sc__law_fault_due.nd rfl (.inl rfl) (pd_call (cal__law_stairs T) hr (by decide) rfl (pd_cons (pd_var (i := 0) rfl (.inl rfl)) (pd_cons (pd_var (i := 1) rfl (.inl rfl)) pd_nil))))
    (pds_cons (pd_for (pd_ienum rfl T.h_enumerate (pd_var (i := 2) rfl (.inl rfl))) (pd_gt (n := 2) T.z.k rfl (pd_gsc (pd_gn (i := 3) (is := [3, 4, 5]) (by decide) sc__law_fault_due.nd rfl (.inl rfl)) (pd_gsc (pd_gt (n := 2) T.z.k rfl (pd_gsc (pd_gn (i := 4) (is := [3, 4, 5]) (by decide) sc__law_fault_due.nd rfl (.inl rfl)) (pd_gsc (pd_gn (i := 5) (is := [3, 4, 5]) (by decide) sc__law_fault_due.nd rfl (.inl rfl)) pd_gsn))) pd_gsn))) (pds_one (pd_if (pt_cmpD op_lt od_lt (pe_vw (pd_var (i := 5) rfl (.inl rfl))) (pe_vw pd_int)) (pds_one (pd_ret (pd_tup (pd_cons pd_str (pd_cons (pd_var (i := 4) rfl (.inl rfl)) (pd_cons (pd_ifE (pt_cmpD op_lt od_lt (pe_vw (pd_op op_add od_add (pe_vw (pd_var (i := 3) rfl (.inl rfl))) (pe_vw pd_int))) (pe_vw (pd_callB (cd_len T.z.k) call_len_seq rfl T.h_len boot_len (pd_consV (pe_vw (pd_var (i := 2) rfl (.inl rfl))) pd_nil)))) (pd_ix T.z.k (pe_vw (pd_ix T.z.k (pe_vw (pd_var (i := 2) rfl (.inl rfl))) (pe_vw (pd_op op_add od_add (pe_vw (pd_var (i := 3) rfl (.inl rfl))) (pe_vw pd_int))))) (pe_vw pd_int)) (pd_tup (pd_cons pd_int (pd_cons pd_int pd_nil)))) (pd_cons (pd_var (i := 5) rfl (.inl rfl)) pd_nil))))))) pds_nil)) PassesOwn.never rfl)
    (pds_one (pd_ret (pd_ifE (pt_cmpD op_lt od_lt (pe_vw (pd_callB (cd_sum T.z.k) (sum_any rfl) rfl T.h_sum boot_sum (pd_consV (pe_vw (pd_var (i := 0) rfl (.inl rfl))) pd_nil))) (pe_vw (pd_callB (cd_sum T.z.k) (sum_any rfl) rfl T.h_sum boot_sum (pd_consV (pe_vw (pd_var (i := 1) rfl (.inl rfl))) pd_nil)))) (pd_tup (pd_cons pd_str (pd_cons (pd_op op_sub od_sub (pe_vw (pd_callB (cd_sum T.z.k) (sum_any rfl) rfl T.h_sum boot_sum (pd_consV (pe_vw (pd_var (i := 0) rfl (.inl rfl))) pd_nil))) (pe_vw (pd_callB (cd_sum T.z.k) (sum_any rfl) rfl T.h_sum boot_sum (pd_consV (pe_vw (pd_var (i := 1) rfl (.inl rfl))) pd_nil)))) pd_nil))) pd_non)))))
end
def sp__law_fault_due : WL := fun ds Q => ∃ (ts bs : List Int), ds = [.tup (ts.map D.int), .tup (bs.map D.int)] ∧ Good ts bs ∧ Q (faultD ts bs)
theorem due_loop (E : EndsD) (v0 v1 : Sl) (all : List ((Int × Int) × Int)) (hal : all.length ≤ 100000) : ∀ (suf pre : List ((Int × Int) × Int)) (s2 s3 s4 : Sl), pre ++ suf = all →
    (match faultF suf with | some f => E.rt (stairT f) | none => ∀ s2 s3 s4, E.nx [v0, v1, .val (.lst (all.map stairD)), s2, s3, s4]) →
    forD (gT 2 (gsC (gN 3) (gsC (gT 2 (gsC (gN 4) (gsC (gN 5) gsN))) gsN))) (wIf (wTest (wOp aLt (wVar 5) (wC (.int 0)))) (wRet (wTup (wCons (wC (.str "stair")) (wCons (wVar 4) (wCons (wIfE (wTest (wOp aLt (wOp aAdd (wVar 3) (wC (.int 1))) (wCall aLen (wCons (wVar 2) wNil)))) (wOp aIx (wOp aIx (wVar 2) (wOp aAdd (wVar 3) (wC (.int 1)))) (wC (.int 0))) (wTup (wCons (wC (.int 1)) (wCons (wC (.int 1)) wNil)))) (wCons (wVar 5) wNil)))))) wNext) E
      (enumD pre.length (suf.map stairD)) [v0, v1, .val (.lst (all.map stairD)), s2, s3, s4]
  | [], pre, s2, s3, s4, _, q => q s2 s3 s4
  | s :: suf, pre, s2, s3, s4, e, q => by
    rw [List.map_cons, enumD, forD]
    unfold faultF at q
    by_cases hs : s.2 < 0
    · rw [if_pos hs] at q
      simp only at q
      simp [stairD, hs, -forD, -aIx]
      cases suf with
      | nil =>
        have hl : all.length = pre.length + 1 := by rw [← e]; simp
        have h1 : ¬ ((pre.length : Int) + 1 < all.length) := by omega
        simp [h1]
        exact ⟨by omega, by simpa [stairT, pairD] using q⟩
      | cons t suf =>
        have hl : all.length = pre.length + (suf.length + 2) := by rw [← e]; simp
        have h1 : (pre.length : Int) + 1 < all.length := by omega
        simp [h1, -aIx]
        refine .inr ?_
        refine ⟨all.map stairD, (pre.length : Int) + 1, stairD t, rfl, rfl, ?_, ?_⟩
        · have := atI_nat (all.map stairD) (pre.length + 1) (x := stairD t) (by rw [← e]; simp)
          simpa using this
        · refine ⟨[pairD t.1, .int t.2], 0, pairD t.1, rfl, rfl, atI0 _ _, ?_⟩
          simpa [stairT] using q
    · rw [if_neg hs] at q
      have := due_loop E v0 v1 all hal suf (pre ++ [s]) (.val (.int pre.length)) (.val (pairD s.1)) (.val (.int s.2)) (by rw [← e]; simp) q
      rw [List.length_append, List.length_singleton] at this
      simpa [stairD, hs, -forD, -aIx] using this
theorem imp__law_fault_due : ∀ ds Q, sp__law_fault_due ds Q → ds.length = 2 ∧ wFn N__law_fault_due wb__law_fault_due ds Q := by
  rintro ds Q ⟨ts, bs, rfl, h, q⟩
  refine ⟨rfl, ?_⟩
  have hl := stairs_len h
  simp [wb__law_fault_due, N__law_fault_due, -forD, -aOver]
  refine ⟨ts, bs, rfl, h, ?_⟩
  refine ⟨_, rfl, ?_⟩
  rw [enum_eq]
  refine due_loop _ (.val (.tup (ts.map D.int))) (.val (.tup (bs.map D.int))) (stairsL ts bs) (by omega) (stairsL ts bs) [] .no .no .no rfl ?_
  unfold faultD at q
  cases hf : faultF (stairsL ts bs) with
  | some f => rw [hf] at q; exact q
  | none =>
    rw [hf] at q
    intro s2 s3 s4
    simp only at q
    simp only [wRet, wIfE, wTest, wOp, wCall, wCons, wVar, wNil, wTup, wC]
    refine ⟨_, rfl, aOver_t _ _ _ ⟨_, rfl, aOver_t _ _ _ ⟨_, rfl, ?_⟩⟩⟩
    by_cases hx : ts.sum - bs.sum < 0
    · rw [if_pos hx] at q
      rw [if_pos (by simp; omega)]
      exact ⟨_, rfl, aOver_t _ _ _ ⟨_, rfl, aOver_t _ _ _ ⟨sz2.mpr trivial, q⟩⟩⟩
    · rw [if_neg hx] at q
      rw [if_neg (by simp; omega)]
      exact q
theorem cal__law_fault_due {P : Program} {w : World} {K : PySem.W.Frag} {mg : Str → Option Value} {base : Heap} {Z : Zc} (T : Txt P w K mg base Z) : Cal P w K mg base Z 5 "_law_fault_due" sp__law_fault_due :=
  cal_of T.d__law_fault_due sc__law_fault_due imp__law_fault_due fun f cdv A outer s H E hr => b__law_fault_due T f cdv A outer s H E hr
section
variable {P : Program} {w : World} {K : PySem.W.Frag} {mg : Str → Option Value} {base : Heap} {Z : Zc}
/-! ### _law_broken_at -/
def N__law_broken_at : List Str := ["_law_tops", "_law_bottoms", "_law_number", "_law_primes", "_law_p"]
theorem sc__law_broken_at : FnScope N__law_broken_at ["_law_tops", "_law_bottoms", "_law_number"] (defScope (topAt 92)) := ⟨rfl, rfl, rfl, by decide +kernel, rfl, by decide +kernel, by decide +kernel⟩
def wb__law_broken_at : WS := (wSeq (wSet 3 (wLc (wIR2 (wCons (wC (.int 2)) (wCons (wOp aAdd (wOp aMul (wCall aMax (wCons (wOp aCatT (wVar 0) (wVar 1)) wNil)) (wVar 2)) (wC (.int 1))) wNil))) (gN 4) (wTest (wCall sp__law_is_prime (wCons (wVar 4) wNil))) (wVar 4) [4])) (wRet (wLc (wIL (wVar 3)) (gN 4) (wTest (wOp aLt (wCall sp__law_exponent (wCons (wVar 0) (wCons (wVar 1) (wCons (wVar 4) (wCons (wVar 2) wNil))))) (wC (.int 0)))) (wVar 4) [4])))
theorem b__law_broken_at (T : Txt P w K mg base Z) (f : Addr) (cdv : Value) (A : Around) (outer : List Env) (s : Shared) (H : Hp) (E : XK) (hr : Room 1 (A.deeper (envOfC "_law_broken_at" (defScope (topAt 92)) s.heap.objs.size f cdv))) :
    PSs (cxOf CX0 P w K mg base N__law_broken_at "_law_broken_at" (defScope (topAt 92)) f cdv A outer s H E).nox (defBody (topAt 92)) (tS Z wb__law_broken_at) :=
  (pds_cons (pd_setLc (i := 3) (own := [("_law_p", 4)]) (is := [4]) rfl sc__law_broken_at.nd rfl rfl (sw_true rfl rfl rfl (by decide +kernel)) (pd_ir2 rfl T.h_range (pd_consV (pe_vw pd_int) (pd_consV (pe_vw (pd_op op_add od_add (pe_vw (pd_op op_mulW od_mul (pe_vw (pd_callB (cd_max T.z.k) (max_any rfl (hu_of hr)) rfl T.h_max boot_max (pd_consV (pe_vw (pd_op op_catA (od_catT T.z.k) (pe_vw (pd_var (i := 0) rfl (.inr (.inl rfl)))) (pe_vw (pd_var (i := 1) rfl (.inr (.inl rfl)))))) pd_nil))) (pe_vw (pd_var (i := 2) rfl (.inr (.inl rfl)))))) (pe_vw pd_int))) pd_nil))) (blkOk_by (N := N__law_broken_at) (sc := defScope (topAt 92)) (by decide +kernel)) (fun _ _ _ _ _ => (pd_gn (i := 4) (is := [4]) (by decide) sc__law_broken_at.nd rfl (.inl rfl))) (fun _ _ _ _ _ => (pd_if1 (pt_valD (pd_call (cal__law_is_prime T) hr (by decide) rfl (pd_cons (pd_var (i := 4) rfl (.inl rfl)) pd_nil))))) (fun _ _ _ _ _ => (pd_var (i := 4) rfl (.inl rfl))) (by decide))
    (pds_one (pd_ret (pe_frz (pd_lc (own := [("_law_p", 4)]) (is := [4]) rfl sc__law_broken_at.nd (pd_il (pd_var (i := 3) rfl (.inl rfl))) (blkOk_by (N := N__law_broken_at) (sc := defScope (topAt 92)) (by decide +kernel)) (fun _ _ _ _ _ => (pd_gn (i := 4) (is := [4]) (by decide) sc__law_broken_at.nd rfl (.inl rfl))) (fun _ _ _ _ _ => (pd_if1 (pt_cmpD op_lt od_lt (pe_vw (pd_call (cal__law_exponent T) hr (by decide) rfl (pd_cons (pd_var (i := 0) rfl (.inr (.inl rfl))) (pd_cons (pd_var (i := 1) rfl (.inr (.inl rfl))) (pd_cons (pd_var (i := 4) rfl (.inl rfl)) (pd_cons (pd_var (i := 2) rfl (.inr (.inl rfl))) pd_nil)))))) (pe_vw pd_int)))) (fun _ _ _ _ _ => (pd_var (i := 4) rfl (.inl rfl))) (by decide))))))
end
def sp__law_broken_at : WL := fun ds Q => ∃ (ts bs : List Int) (n : Int), ds = [.tup (ts.map D.int), .tup (bs.map D.int), .int n] ∧ Good ts bs ∧ 0 ≤ n ∧ n ≤ 120 ∧ Q (.lst ((brk ts bs n).map D.int))
theorem imp__law_broken_at : ∀ ds Q, sp__law_broken_at ds Q → ds.length = 3 ∧ wFn N__law_broken_at wb__law_broken_at ds Q := by
  rintro ds Q ⟨ts, bs, n, rfl, h, n0, n1, q⟩
  refine ⟨rfl, ?_⟩
  have hm := h.1.1 _ (maxL_mem h.1.2.2.2)
  have hp0 : 0 ≤ maxL (ts ++ bs) * n := Int.mul_nonneg (by omega) n0
  have hp1 : maxL (ts ++ bs) * n ≤ 60 * 120 := Int.mul_le_mul hm.2 n1 n0 (by decide)
  have c1 : CMulW (maxL (ts ++ bs)) n := mulW_of (a := 10) (b := 10) (by omega) (by omega)
  have hsz := h.1.sz
  simp only [wFn, wb__law_broken_at, wSeq, wSet, wLc, wIR2, wCons, wC, wOp, wCall, wVar, wNil]
  refine ⟨_, rfl, _, rfl, _, _, rfl, rfl, by simpa using hsz, ?_⟩
  rw [star_both]
  refine aOver_t _ _ _ ⟨h.1.2.2.2, _, rfl, c1, ⟨by decide, by decide, by omega, by omega⟩, ?_⟩
  have e2 : (maxL (ts ++ bs) * n + 1 - 2).toNat = (maxL (ts ++ bs) * n - 1).toNat := by omega
  rw [e2, rngD_eq]
  refine lc_pure D.int prB D.int (rngI 2 (maxL (ts ++ bs) * n - 1).toNat) [] (fun p hp K1 K0 k1 k0 => ?_) (by have := size_big; rw [rngI_len]; simp; omega) ?_
  · have hp := mem_rngI.mp hp
    refine ⟨_, rfl, ⟨p, rfl, by omega, ⟨_, rfl, ?_⟩⟩⟩
    by_cases e : prB p = true
    · exact ite_t e ⟨_, rfl, k1 e⟩
    · exact ite_f (by simpa using e) (k0 (by simpa using e))
  · rw [List.nil_append]
    show wRet _ _ _
    simp only [wRet, wLc, wIL, wVar]
    refine ⟨_, rfl, _, rfl, ?_⟩
    refine lc_pure D.int (fun p => decide (expo ts bs p n < 0)) D.int (prs (maxL (ts ++ bs) * n)) [] (fun p hp K1 K0 k1 k0 => ?_) (by have := size_big; have := prs_len (n := maxL (ts ++ bs) * n) (by omega); simp; omega) (by simpa [brk] using q)
    obtain ⟨hp1, hp2, hp3⟩ := prs_mem hp
    refine ⟨_, rfl, _, rfl, _, rfl, _, rfl, ts, bs, p, n, rfl, h.1, hp2, by omega, n0, by omega, ⟨_, rfl, ?_⟩⟩
    by_cases e : expo ts bs p n < 0
    · exact ite_t (by simpa using e) ⟨_, rfl, k1 (by simpa using e)⟩
    · exact ite_f (by simpa using e) (k0 (by simpa using e))
theorem cal__law_broken_at {P : Program} {w : World} {K : PySem.W.Frag} {mg : Str → Option Value} {base : Heap} {Z : Zc} (T : Txt P w K mg base Z) : Cal P w K mg base Z 2 "_law_broken_at" sp__law_broken_at :=
  cal_of T.d__law_broken_at sc__law_broken_at imp__law_broken_at fun f cdv A outer s H E hr => b__law_broken_at T f cdv A outer s H E hr
end DL

namespace DL
open PySem PySem.Spec PyProof.Rows L2
/-! ### the draws from the bag, raw -/
def sp__law_grab : WL := fun ds Q => ∃ t : Int, ds = [.bag, .int t] ∧ 1 ≤ t ∧ t ≤ 10 ^ 30 ∧ ∀ r : Int, 0 ≤ r → r < t → Q (.int r)
def N_grab : List Str := ["_law_bag_here", "_law_total", "_law_found", "_law_one", "_law_two"]
theorem sc_grab : FnScope N_grab ["_law_bag_here", "_law_total"] (defScope (topAt 72)) := ⟨rfl, rfl, rfl, by decide +kernel, rfl, by decide +kernel, by decide +kernel⟩
theorem atI2 {α : Type} (a b c : α) (r : List α) : atI (a :: b :: c :: r) 2 = some c := atI_nat (a :: b :: c :: r) 2 (x := c) rfl
theorem Fr.bag {B : Addr} {F H : Hp} (hd : HdOk B F H) {x y z : Int} (h : 0 ≤ x ∧ x < 2 ^ 2000 ∧ 0 ≤ y ∧ y < 2 ^ 64 ∧ 0 ≤ z) : Fr B H F (upd H B (.lst [.int x, .int y, .int z])) F :=
  ⟨fun a o ne e => by rw [upd_ne ne]; exact e, fun _ _ => rfl, ⟨fun a o e => by rw [upd_ne (hd.neB e)]; exact hd.le a o e, hd.fb, ⟨x, y, z, upd_same, h⟩⟩⟩
section
variable {P : Program} {w : World} {K : PySem.W.Frag} {mg : Str → Option Value} {base : Heap} {Z : Zc}
theorem cal__law_grab (T : Txt P w K mg base Z) : Cal P w K mg base Z 1 "_law_grab" sp__law_grab := by
  obtain ⟨f, ⟨fd, FF, b⟩, hm, hk⟩ := T.d__law_grab
  refine ⟨f, hm, hk, ?_⟩
  have G : FnOk P w K mg base CX0 1 f fd ["_law_bag_here", "_law_total"] (spD Z sp__law_grab) := FF.ok sc_grab (fun vs H Q E ⟨B, F, ds, P, hd, r, ⟨t, e, _⟩, q⟩ => by subst e; rw [r.length]; rfl) fun cdv A outer s H vs Q E hr ⟨B, F, ds, P, hd, r, ⟨t, e, t1, t2, w⟩, q⟩ => by
    refine ⟨_, pss_cons (ps_if (pt_cmpR op_gt (pe_ix ix_seq (pe_var (i := 0) rfl (.inl rfl)) pe_int (by intro _ _; rfl)) pe_int (by first | exact nobehind _ (by decide) (by decide) | rfl))
      (pss_cons (ps_set (i := 2) sc_grab.nd rfl (.inl rfl) (pe_op op_mod (pe_callTy call_int1 rfl T.h_int boot_int (pa_cons (pe_ix ix_seq (pe_var (i := 0) rfl (.inl rfl)) pe_int (by intro _ _; rfl)) pa_nil)) (pe_var (i := 1) rfl (.inl rfl))))
      (pss_cons (ps_asg (pe_op op_fdivW (pe_ix ix_seq (pe_var (i := 0) rfl (.inl rfl)) pe_int (by intro _ _; rfl)) (pe_var (i := 1) rfl (.inl rfl))) (pg_sub (pe_var (i := 0) rfl (.inl rfl)) pe_int set_list (by intro _; rfl)))
      (pss_one (ps_ret (pe_var (i := 2) rfl (.inl rfl)))))) pss_nil)
      (pss_cons (ps_asg (pe_op op_add (pe_ix ix_seq (pe_var (i := 0) rfl (.inl rfl)) pe_int (by intro _ _; rfl)) pe_int) (pg_sub (pe_var (i := 0) rfl (.inl rfl)) pe_int set_list (by intro _; rfl)))
      (pss_cons (ps_set (i := 3) sc_grab.nd rfl (.inl rfl) (pe_op op_mod (pe_callTy call_int1 rfl T.h_int boot_int (pa_cons (pe_op op_add (pe_ix ix_seq (pe_var (i := 0) rfl (.inl rfl)) pe_int (by intro _ _; rfl)) (pe_op op_mul pe_int (pe_ix ix_seq (pe_var (i := 0) rfl (.inl rfl)) pe_int (by intro _ _; rfl)))) pa_nil)) pe_int))
      (pss_cons (ps_set (i := 4) sc_grab.nd rfl (.inl rfl) (pe_op op_add (pe_op op_mul (pe_op op_mod (pe_callTy call_int1 rfl T.h_int boot_int (pa_cons (pe_op op_mul (pe_var (i := 3) rfl (.inl rfl)) (pe_var (i := 3) rfl (.inl rfl))) pa_nil)) pe_int) (pe_var (i := 3) rfl (.inl rfl))) (pe_op op_mul pe_int (pe_ix ix_seq (pe_var (i := 0) rfl (.inl rfl)) pe_int (by intro _ _; rfl)))))
      (pss_one (ps_ret (pe_op op_mod (pe_callTy call_int1 rfl T.h_int boot_int (pa_cons (pe_op op_fdivW (pe_op op_mod (pe_callTy call_int1 rfl T.h_int boot_int (pa_cons (pe_var (i := 4) rfl (.inl rfl)) pa_nil)) pe_int) pe_int) pa_nil)) (pe_var (i := 1) rfl (.inl rfl)))))))), ?_⟩
    subst e
    obtain ⟨v0, r0, e0, rB, r1⟩ := r.cons_inv
    obtain ⟨v1, r2, e1, rt, r3⟩ := r1.cons_inv
    have e3 := r3.nil_inv
    cases (show v0 = V.ref B from rB)
    cases (show v1 = V.int t from rt)
    subst e3 e1 e0
    obtain ⟨x, y, z, hB, x0, x1, y0, y1, z0⟩ := hd.bag
    have ct : CDivW (0 + t) t := divW_of (b := 100) (by omega) (by omega)
    have cd : ∀ i : Int, CDivW i t := fun i => ct
    refine ⟨_, rfl, .inl ⟨B, _, 0, .int x, rfl, rfl, SqL.of hB, atI0 _ _, ⟨_, _, rfl, rfl, ⟨_, rfl, ?_⟩⟩⟩⟩
    by_cases hx : 0 < x
    · refine ite_t (decide_eq_true hx) ?_
      refine ⟨_, rfl, .inl ⟨B, _, 0, .int x, rfl, rfl, SqL.of hB, atI0 _ _, .inl ⟨_, rfl, ⟨_, rfl, ⟨_, _, rfl, rfl, by omega, ?_⟩⟩⟩⟩⟩
      refine ⟨_, rfl, .inl ⟨B, _, 0, .int x, rfl, rfl, SqL.of hB, atI0 _ _, ⟨_, rfl, ⟨_, _, rfl, rfl, cd _, ?_⟩⟩⟩⟩
      refine ⟨_, rfl, ⟨B, _, 0, 0, rfl, rfl, hB, rfl, ?_⟩⟩
      refine ⟨_, rfl, ?_⟩
      have h1 := Int.emod_nonneg x (show t ≠ 0 by omega)
      have h2 := Int.emod_lt_of_pos x (show 0 < t by omega)
      have h3 := Int.ediv_nonneg x0 (show 0 ≤ t by omega)
      have h4 := Int.ediv_le_self t x0
      exact q (.int (x % t)) F _ _ (w _ h1 h2) (Fr.bag hd ⟨h3, by omega, y0, y1, z0⟩) rfl
    · refine ite_f (decide_eq_false hx) ?_
      have hS : ∀ z : Int, SqL K (upd H B (.lst [.int x, .int y, .int z])) B [.int x, .int y, .int z] := fun z => SqL.of upd_same
      have c1 : CMul 1048637 (z + 1) := .inl (by decide)
      have c3 : CMul 8161 (z + 1) := .inl (by decide)
      have c4 : ∀ i : Int, CDivW i 16384 := fun i => divW_of (b := 20) (by decide) (by decide)
      refine ⟨_, rfl, .inl ⟨B, _, 2, .int z, rfl, rfl, SqL.of hB, atI2 _ _ _ _, ⟨_, _, rfl, rfl, ?_⟩⟩⟩
      refine ⟨_, rfl, ⟨B, _, 2, 2, rfl, rfl, hB, rfl, ?_⟩⟩
      show tSeq _ _ _ _ (upd H B (.lst [.int x, .int y, .int (z + 1)]))
      refine ⟨_, rfl, .inl ⟨B, _, 1, .int y, rfl, rfl, hS _, atI1 _ _ _, ?_⟩⟩
      refine ⟨_, rfl, .inl ⟨B, _, 2, .int (z + 1), rfl, rfl, hS _, atI2 _ _ _ _, ?_⟩⟩
      have p1 : (0 : Int) < 2305843009213693951 := by decide
      have p2 : (0 : Int) < 2305843009213693723 := by decide
      have p3 : (0 : Int) < 2305843009213693921 := by decide
      refine ⟨_, _, rfl, rfl, c1, ⟨_, _, rfl, rfl, .inl ⟨_, rfl, ⟨_, _, rfl, rfl, p1, ?_⟩⟩⟩⟩
      have o1 := Int.emod_nonneg (y + 1048637 * (z + 1)) (show (2305843009213693951 : Int) ≠ 0 by decide)
      have o2 := Int.emod_lt_of_pos (y + 1048637 * (z + 1)) (show (0 : Int) < 2305843009213693951 by decide)
      have c2 : ∀ i : Int, CMul i ((y + 1048637 * (z + 1)) % 2305843009213693951) := fun i => .inr (by omega)
      clear o1 o2
      refine ⟨_, rfl, ⟨_, rfl, ⟨_, _, rfl, rfl, c2 _, .inl ⟨_, rfl, ⟨_, _, rfl, rfl, p2, ?_⟩⟩⟩⟩⟩
      refine ⟨_, rfl, ⟨_, _, rfl, rfl, c2 _, ?_⟩⟩
      refine ⟨_, rfl, .inl ⟨B, _, 2, .int (z + 1), rfl, rfl, hS _, atI2 _ _ _ _, ⟨_, _, rfl, rfl, c3, ⟨_, _, rfl, rfl, ?_⟩⟩⟩⟩
      have pt : 0 < t := by omega
      refine ⟨_, rfl, .inl ⟨_, rfl, ⟨_, _, rfl, rfl, p3, ⟨_, _, rfl, rfl, c4 _, .inl ⟨_, rfl, ⟨_, rfl, ⟨_, _, rfl, rfl, pt, ?_⟩⟩⟩⟩⟩⟩⟩
      exact q (.int _) F _ _ (w _ (Int.emod_nonneg _ (by omega)) (Int.emod_lt_of_pos _ pt)) (Fr.bag hd ⟨x0, x1, y0, y1, by omega⟩) rfl
  have := G.raw b .nil
  simpa only [List.append_nil] using this
end
end DL

namespace DL
open PySem PySem.Spec PyProof.Rows L2
def RowOk (ts bs : List Int) : Prop := ts.Pairwise (· ≥ ·) ∧ bs.Pairwise (· ≥ ·) ∧ (∀ m ∈ ts, m ∉ bs) ∧ Good ts bs
def twoD (ts bs : List Int) : D := .tup [.tup (ts.map D.int), .tup (bs.map D.int)]
section
variable {P : Program} {w : World} {K : PySem.W.Frag} {mg : Str → Option Value} {base : Heap} {Z : Zc}
/-! ### _law_one_of -/
def N__law_one_of : List Str := ["_law_bag_here", "_law_items"]
theorem sc__law_one_of : FnScope N__law_one_of ["_law_bag_here", "_law_items"] (defScope (topAt 73)) := ⟨rfl, rfl, rfl, by decide +kernel, rfl, by decide +kernel, by decide +kernel⟩
def wb__law_one_of : WS := (wRet (wOp aIx (wVar 1) (wCall sp__law_grab (wCons (wVar 0) (wCons (wCall aLen (wCons (wVar 1) wNil)) wNil)))))
theorem b__law_one_of (T : Txt P w K mg base Z) (f : Addr) (cdv : Value) (A : Around) (outer : List Env) (s : Shared) (H : Hp) (E : XK) (hr : Room 1 (A.deeper (envOfC "_law_one_of" (defScope (topAt 73)) s.heap.objs.size f cdv))) :
    PSs (cxOf CX0 P w K mg base N__law_one_of "_law_one_of" (defScope (topAt 73)) f cdv A outer s H E).nox (defBody (topAt 73)) (tS Z wb__law_one_of) :=
  (pds_one (pd_ret (pd_ix T.z.k (pe_vw (pd_var (i := 1) rfl (.inl rfl))) (pe_vw (pd_call (cal__law_grab T) hr (by decide) rfl (pd_cons (pd_var (i := 0) rfl (.inl rfl)) (pd_cons (pd_callB (cd_len T.z.k) call_len_seq rfl T.h_len boot_len (pd_consV (pe_vw (pd_var (i := 1) rfl (.inl rfl))) pd_nil)) pd_nil)))))))
end
def sp__law_one_of : WL := fun ds Q => ∃ (d : D) (xs : List D), ds = [.bag, d] ∧ d.items = some xs ∧ xs ≠ [] ∧ xs.length ≤ 1000 ∧ ∀ x ∈ xs, Q x
theorem imp__law_one_of : ∀ ds Q, sp__law_one_of ds Q → ds.length = 2 ∧ wFn N__law_one_of wb__law_one_of ds Q := by
  rintro ds Q ⟨d, xs, rfl, hi, hne, hl, q⟩
  refine ⟨rfl, ?_⟩
  have hp := List.length_pos_iff.mpr hne
  refine ⟨_, rfl, _, rfl, _, rfl, ⟨d, xs, rfl, hi, ?_⟩⟩
  refine ⟨xs.length, rfl, by omega, by omega, fun r r0 r1 => ?_⟩
  have hr : r.toNat < xs.length := by omega
  have e := List.getElem?_eq_getElem hr
  have := atI_nat xs r.toNat e
  rw [Int.toNat_of_nonneg r0] at this
  exact ⟨xs, r, _, hi, rfl, this, q _ (List.getElem_mem hr)⟩
theorem cal__law_one_of {P : Program} {w : World} {K : PySem.W.Frag} {mg : Str → Option Value} {base : Heap} {Z : Zc} (T : Txt P w K mg base Z) : Cal P w K mg base Z 2 "_law_one_of" sp__law_one_of :=
  cal_of T.d__law_one_of sc__law_one_of imp__law_one_of fun f cdv A outer s H E hr => b__law_one_of T f cdv A outer s H E hr
section
variable {P : Program} {w : World} {K : PySem.W.Frag} {mg : Str → Option Value} {base : Heap} {Z : Zc}
/-! ### _law_without_shared -/
def N__law_without_shared : List Str := ["_law_tops", "_law_bottoms", "_law_left", "_law_found", "_law_top"]
theorem sc__law_without_shared : FnScope N__law_without_shared ["_law_tops", "_law_bottoms"] (defScope (topAt 74)) := ⟨rfl, rfl, rfl, by decide +kernel, rfl, by decide +kernel, by decide +kernel⟩
def wb__law_without_shared : WS := (wSeq (wPar2 2 3 .new .new (wCall aList (wCons (wVar 1) wNil)) (wLst wNil)) (wSeq (wFor (wISeq (wVar 0)) (gN 4) (wIf (wTest (wOp aIn (wVar 4) (wOwn 2))) (wRem 2 (wVar 4)) (wApp 3 (wVar 4)))) (wRet (wTup (wCons (wCall aTuple (wCons (wRev (wCall aSorted (wCons (wOwn 3) wNil))) wNil)) (wCons (wCall aTuple (wCons (wRev (wCall aSorted (wCons (wOwn 2) wNil))) wNil)) wNil))))))
theorem b__law_without_shared (T : Txt P w K mg base Z) (f : Addr) (cdv : Value) (A : Around) (outer : List Env) (s : Shared) (H : Hp) (E : XK) (hr : Room 0 (A.deeper (envOfC "_law_without_shared" (defScope (topAt 74)) s.heap.objs.size f cdv))) :
    PSs (cxOf CX0 P w K mg base N__law_without_shared "_law_without_shared" (defScope (topAt 74)) f cdv A outer s H E).nox (defBody (topAt 74)) (tS Z wb__law_without_shared) :=
  (pds_cons (pd_par2 (i := 2) (j := 3) (k1 := .new) (k2 := .new) (by decide) (by decide) rfl sc__law_without_shared.nd rfl rfl (by decide) rfl rfl (pd_callTy (cd_list T.z.k) call_list_of rfl T.h_list boot_list (pd_consV (pe_vw (pd_var (i := 1) rfl (.inl rfl))) pd_nil)) (pd_lst pd_nil) (by rfl))
    (pds_cons (pd_for (pd_iseq T.z.k (pd_var (i := 0) rfl (.inl rfl))) (pd_gn (i := 4) (is := [4]) (by decide) sc__law_without_shared.nd rfl (.inl rfl)) (pds_one (pd_if (pt_cmpD op_in_seq (od_in T.z.k) (pe_vw (pd_var (i := 4) rfl (.inl rfl))) (pd_own (i := 2) rfl (.inl rfl)) (by with_unfolding_all rfl)) (pds_one (pd_rem (j := 2) rfl (.inl rfl) (pd_var (i := 4) rfl (.inl rfl)))) (pds_one (pd_app (j := 3) rfl (.inl rfl) (pd_var (i := 4) rfl (.inl rfl)))))) PassesOwn.never rfl)
    (pds_one (pd_ret (pd_tup (pd_cons (pd_callTy (cd_tuple T.z.k) call_tuple_of rfl T.h_tuple boot_tuple (pd_consV (pe_nv (pd_rev (pe_nv (pd_callB cd_sorted cr_sortedI rfl T.h_sorted boot_sorted (pd_consV (pd_own (i := 3) rfl (.inl rfl)) pd_nil))))) pd_nil)) (pd_cons (pd_callTy (cd_tuple T.z.k) call_tuple_of rfl T.h_tuple boot_tuple (pd_consV (pe_nv (pd_rev (pe_nv (pd_callB cd_sorted cr_sortedI rfl T.h_sorted boot_sorted (pd_consV (pd_own (i := 2) rfl (.inl rfl)) pd_nil))))) pd_nil)) pd_nil)))))))
end
def sp__law_without_shared : WL := fun ds Q => ∃ (d1 d2 : D) (xs ys : List Int), ds = [d1, d2] ∧ isInts d1 xs ∧ isInts d2 ys ∧ xs.length ≤ 1000 ∧ ys.length ≤ 1000 ∧
  ∀ ts bs : List Int, ts.Pairwise (· ≥ ·) → bs.Pairwise (· ≥ ·) → (∀ m ∈ ts, m ∉ bs) → ts.length ≤ xs.length → bs.length ≤ ys.length → Q (twoD ts bs)
theorem first_at {k : Int} : ∀ {is : List Int}, k ∈ is → ∃ n : Nat, is[n]? = some k ∧ ∀ m : Nat, m < n → is[m]? ≠ some k
  | i :: is, h => by
    by_cases e : i = k
    · exact ⟨0, by rw [e]; rfl, fun m hm => absurd hm (by omega)⟩
    · have h' : k ∈ is := by
        rcases List.mem_cons.mp h with rfl | h
        · exact absurd rfl e
        · exact h
      obtain ⟨n, h1, h2⟩ := first_at h'
      refine ⟨n + 1, by simpa using h1, fun m hm => ?_⟩
      cases m with
      | zero => simpa using e
      | succ m => simpa using h2 m (by omega)
theorem shared_loop (E : EndsD) (v0 v1 : Sl) : ∀ (xs left found : List Int) (s : Sl), found.length + xs.length ≤ 1000 → (∀ m ∈ found, m ∉ left) →
    (∀ (left' found' : List Int) s, (∀ m ∈ found', m ∉ left') → left'.length ≤ left.length → found'.length ≤ found.length + xs.length → E.nx [v0, v1, .own (.lst (left'.map D.int)), .own (.lst (found'.map D.int)), s]) →
    forD (gN 4) (wIf (wTest (wOp aIn (wVar 4) (wOwn 2))) (wRem 2 (wVar 4)) (wApp 3 (wVar 4))) E (xs.map D.int) [v0, v1, .own (.lst (left.map D.int)), .own (.lst (found.map D.int)), s]
  | [], left, found, s, _, hd, q => q left found s hd (Nat.le_refl _) (Nat.le_refl _)
  | x :: xs, left, found, s, hl, hd, q => by
    have hl : found.length + (xs.length + 1) ≤ 1000 := hl
    rw [List.map_cons, forD]
    show ∃ d, _ ∧ ∃ d2, _ ∧ _
    refine ⟨_, rfl, _, rfl, x, left, rfl, rfl, _, rfl, ?_⟩
    by_cases hx : x ∈ left
    · refine ite_t (by simpa using hx) ?_
      obtain ⟨n, h1, h2⟩ := first_at hx
      refine ⟨_, rfl, _, rfl, left, x, n, rfl, rfl, h1, h2, ?_⟩
      refine shared_loop E v0 v1 xs (left.eraseIdx n) found (.val (.int x)) (by omega) (fun m hm z => hd m hm (List.mem_of_mem_eraseIdx z)) fun l' f' s' a b c => ?_
      refine q l' f' s' a (Nat.le_trans b (List.length_eraseIdx_le ..)) (by rw [List.length_cons]; omega)
    · refine ite_f (by simpa using hx) ?_
      refine ⟨_, rfl, _, rfl, by have := size_big; rw [List.length_map]; omega, ?_⟩
      have z := shared_loop E v0 v1 xs left (found ++ [x]) (.val (.int x)) (by rw [List.length_append, List.length_singleton]; omega) (fun m hm => by
        rcases List.mem_append.mp hm with hm | hm
        · exact hd m hm
        · rw [List.mem_singleton.mp hm]; exact hx) fun l' f' s' a b c => by
          refine q l' f' s' a b ?_
          rw [List.length_append, List.length_singleton] at c
          rw [List.length_cons]; omega
      rw [List.map_append] at z
      exact z
theorem imp__law_without_shared : ∀ ds Q, sp__law_without_shared ds Q → ds.length = 2 ∧ wFn N__law_without_shared wb__law_without_shared ds Q := by
  rintro ds Q ⟨d1, d2, xs, ys, rfl, h1, h2, l1, l2, q⟩
  refine ⟨rfl, ?_⟩
  refine ⟨_, rfl, ⟨d2, ys.map D.int, rfl, ints_of d2 ys h2, by decide, ?_⟩⟩
  show wISeq _ _ _
  have key : forD (gN 4) (wIf (wTest (wOp aIn (wVar 4) (wOwn 2))) (wRem 2 (wVar 4)) (wApp 3 (wVar 4))) { nx := wRet (wTup (wCons (wCall aTuple (wCons (wRev (wCall aSorted (wCons (wOwn 3) wNil))) wNil)) (wCons (wCall aTuple (wCons (wRev (wCall aSorted (wCons (wOwn 2) wNil))) wNil)) wNil))) { nx := fun _ => Q .non, rt := Q }, rt := Q } (xs.map D.int) [.val d1, .val d2, .own (.lst (ys.map D.int)), .own (.lst (List.map D.int [])), .no] := by
    refine shared_loop _ _ _ xs ys [] .no (by simpa using l1) (fun m hm => by cases hm) fun left found s hd a b => ?_
    simp
    refine ⟨found, rfl, fun fs hp hs => ?_⟩
    refine ⟨left, rfl, fun ls hp2 hs2 => ?_⟩
    have := q fs.reverse ls.reverse (List.pairwise_reverse.mpr hs) (List.pairwise_reverse.mpr hs2) (fun m hm z => hd m (hp.mem_iff.mp (List.mem_reverse.mp hm)) (hp2.mem_iff.mp (List.mem_reverse.mp z))) (by rw [List.length_reverse, hp.length_eq]; simpa using b) (by rw [List.length_reverse, hp2.length_eq]; exact a)
    simpa [twoD, List.map_reverse] using this
  rcases h1 with rfl | rfl
  · exact .inl ⟨_, rfl, _, rfl, key⟩
  · exact .inr ⟨_, rfl, _, rfl, key⟩
theorem cal__law_without_shared {P : Program} {w : World} {K : PySem.W.Frag} {mg : Str → Option Value} {base : Heap} {Z : Zc} (T : Txt P w K mg base Z) : Cal P w K mg base Z 1 "_law_without_shared" sp__law_without_shared :=
  cal_of T.d__law_without_shared sc__law_without_shared imp__law_without_shared fun f cdv A outer s H E hr => b__law_without_shared T f cdv A outer s H E hr
section
variable {P : Program} {w : World} {K : PySem.W.Frag} {mg : Str → Option Value} {base : Heap} {Z : Zc}
/-! ### _law_is_row_let -/
def N__law_is_row_let : List Str := ["_law_tops", "_law_bottoms", "_law_members"]
theorem sc__law_is_row_let : FnScope N__law_is_row_let ["_law_tops", "_law_bottoms"] (defScope (topAt 75)) := ⟨rfl, rfl, rfl, by decide +kernel, rfl, by decide +kernel, by decide +kernel⟩
def wb__law_is_row_let : WS := (wSeq (wSet 2 (wOp aCatT (wCall aTuple (wCons (wVar 0) wNil)) (wCall aTuple (wCons (wVar 1) wNil)))) (wSeq (wIf (wOr (wTest (wOp (aEq false) (wVar 2) (wTup wNil))) (wOr (wTest (wOp aGt (wCall aMax2 (wCons (wCall aLen (wCons (wVar 0) wNil)) (wCons (wCall aLen (wCons (wVar 1) wNil)) wNil))) (wC (.int 8)))) (wOr (wTest (wOp aGt (wCall aMax (wCons (wVar 2) wNil)) (wC (.int 60)))) (wTest (wOp aLt (wCall aMin (wCons (wVar 2) wNil)) (wC (.int 1))))))) (wRet (wC (.bl false))) wNext) (wRet (wOp aLe (wCall sp__law_multiple (wCons (wVar 2) wNil)) (wC (.int 2520))))))
theorem b__law_is_row_let (T : Txt P w K mg base Z) (f : Addr) (cdv : Value) (A : Around) (outer : List Env) (s : Shared) (H : Hp) (E : XK) (hr : Room 2 (A.deeper (envOfC "_law_is_row_let" (defScope (topAt 75)) s.heap.objs.size f cdv))) :
    PSs (cxOf CX0 P w K mg base N__law_is_row_let "_law_is_row_let" (defScope (topAt 75)) f cdv A outer s H E).nox (defBody (topAt 75)) (tS Z wb__law_is_row_let) :=
  (pds_cons (pd_set (i := 2) sc__law_is_row_let.nd rfl (.inl rfl) (pd_op op_catA (od_catT T.z.k) (pe_vw (pd_callTy (cd_tuple T.z.k) call_tuple_of rfl T.h_tuple boot_tuple (pd_consV (pe_vw (pd_var (i := 0) rfl (.inl rfl))) pd_nil))) (pe_vw (pd_callTy (cd_tuple T.z.k) call_tuple_of rfl T.h_tuple boot_tuple (pd_consV (pe_vw (pd_var (i := 1) rfl (.inl rfl))) pd_nil)))))
    (pds_cons (pd_if (PW.pt (pw_orD (pt_cmpD (op_eqD hr.units) (od_eq T.z.k) (pe_vw (pd_var (i := 2) rfl (.inl rfl))) (pe_vw (pd_tup pd_nil))) (pw_orD (pt_cmpD op_gt od_gt (pe_vw (pd_callB cd_two (call_max2 rfl) rfl T.h_max boot_max (pd_consV (pe_vw (pd_callB (cd_len T.z.k) call_len_seq rfl T.h_len boot_len (pd_consV (pe_vw (pd_var (i := 0) rfl (.inl rfl))) pd_nil))) (pd_consV (pe_vw (pd_callB (cd_len T.z.k) call_len_seq rfl T.h_len boot_len (pd_consV (pe_vw (pd_var (i := 1) rfl (.inl rfl))) pd_nil))) pd_nil)))) (pe_vw pd_int)) (pw_orD (pt_cmpD op_gt od_gt (pe_vw (pd_callB (cd_max T.z.k) (max_any rfl (hu_of hr)) rfl T.h_max boot_max (pd_consV (pe_vw (pd_var (i := 2) rfl (.inl rfl))) pd_nil))) (pe_vw pd_int)) (pw_or1D (pt_cmpD op_lt od_lt (pe_vw (pd_callB (cd_min T.z.k) (min_any rfl (hu_of hr)) rfl T.h_min boot_min (pd_consV (pe_vw (pd_var (i := 2) rfl (.inl rfl))) pd_nil))) (pe_vw pd_int))))))) (pds_one (pd_ret pd_bl)) pds_nil)
    (pds_one (pd_ret (pd_cmp op_le od_le (pe_vw (pd_call (cal__law_multiple T) hr (by decide) rfl (pd_cons (pd_var (i := 2) rfl (.inl rfl)) pd_nil))) (pe_vw pd_int))))))
end
def sp__law_is_row_let : WL := fun ds Q => ∃ (xs ys : List Int), ds = [.tup (xs.map D.int), .tup (ys.map D.int)] ∧ xs.length ≤ 1000 ∧ ys.length ≤ 1000 ∧ ∀ b : Bool, (b = true → Good xs ys) → Q (.bl b)
theorem imp__law_is_row_let : ∀ ds Q, sp__law_is_row_let ds Q → ds.length = 2 ∧ wFn N__law_is_row_let wb__law_is_row_let ds Q := by
  rintro ds Q ⟨xs, ys, rfl, h1, h2, q⟩
  refine ⟨rfl, ?_⟩
  have hsz := size_big
  refine ⟨_, rfl, ⟨_, _, rfl, rfl, _, rfl, ⟨_, _, rfl, rfl, _, _, rfl, rfl, by simp; omega, ?_⟩⟩⟩
  rw [star_both]
  refine ⟨_, rfl, by decide, cmp_tupI (xs ++ ys), cmp_tupI [], _, rfl, ?_⟩
  rw [show D.tup [] = D.tup (List.map D.int []) from rfl, eqv_tupI]
  by_cases hne : xs ++ ys = []
  · refine ite_t (by rw [decide_eq_true hne]; rfl) (ite_t rfl ?_)
    exact q false (by intro h; cases h)
  refine ite_f (by rw [decide_eq_false hne]; rfl) ?_
  simp only [wOr, wTest, wOp, wCall, wCons, wVar, wNil, wC]
  refine ⟨_, rfl, ?_⟩
  rw [aLen_t]
  refine ⟨_, rfl, ?_⟩
  rw [aLen_t]
  simp only [List.length_map, aTwo_eq]
  refine ⟨_, rfl, ?_⟩
  by_cases h8 : 8 < (if (ys.length : Int) > xs.length then (ys.length : Int) else xs.length)
  · refine ite_t (by simpa using h8) ?_
    exact q false (by intro h; cases h)
  refine ite_f (by simpa using h8) ?_
  refine ⟨_, rfl, aOver_t _ _ _ ⟨hne, _, rfl, ?_⟩⟩
  by_cases h60 : 60 < maxL (xs ++ ys)
  · refine ite_t (by simpa using h60) ?_
    exact q false (by intro h; cases h)
  refine ite_f (by simpa using h60) ?_
  refine ⟨_, rfl, aOver_t _ _ _ ⟨hne, _, rfl, ?_⟩⟩
  by_cases h0 : minL (xs ++ ys) < 1
  · refine ite_t (by simpa using h0) ?_
    exact q false (by intro h; cases h)
  refine ite_f (by simpa using h0) ?_
  have hs : Small xs ys := by
    refine ⟨fun m hm => ?_, ?_, ?_, hne⟩
    · have := maxL_ge hm
      have := minL_le hm
      omega
    · split at h8 <;> omega
    · split at h8 <;> omega
  refine ⟨_, rfl, ⟨_, xs ++ ys, rfl, isInts_t _, by have := hs.len; omega, fun n hn => by have := hs.1 n hn; omega, ?_⟩⟩
  refine q _ fun h => ⟨hs, by simpa using h⟩
theorem cal__law_is_row_let {P : Program} {w : World} {K : PySem.W.Frag} {mg : Str → Option Value} {base : Heap} {Z : Zc} (T : Txt P w K mg base Z) : Cal P w K mg base Z 3 "_law_is_row_let" sp__law_is_row_let :=
  cal_of T.d__law_is_row_let sc__law_is_row_let imp__law_is_row_let fun f cdv A outer s H E hr => b__law_is_row_let T f cdv A outer s H E hr
section
variable {P : Program} {w : World} {K : PySem.W.Frag} {mg : Str → Option Value} {base : Heap} {Z : Zc}
/-! ### _law_told_balanced -/
def N__law_told_balanced : List Str := ["_law_bag_here", "_law_way", "_law_a", "_law_b", "_law_apart", "_law_pieces", "_law_turn", "_law_some", "_law_gap", "_law_found", "_law_one"]
theorem sc__law_told_balanced : FnScope N__law_told_balanced ["_law_bag_here"] (defScope (topAt 76)) := ⟨rfl, rfl, rfl, by decide +kernel, rfl, by decide +kernel, by decide +kernel⟩
def wb__law_told_balanced : WS := (wSeq (wPar3 1 2 3 .frz .frz .frz (wCall sp__law_grab (wCons (wVar 0) (wCons (wC (.int 8)) wNil))) (wOp aAdd (wC (.int 1)) (wCall sp__law_grab (wCons (wVar 0) (wCons (wC (.int 9)) wNil)))) (wOp aAdd (wC (.int 1)) (wCall sp__law_grab (wCons (wVar 0) (wCons (wC (.int 6)) wNil))))) (wSeq (wIf (wTest (wOp aLt (wVar 1) (wC (.int 2)))) (wRet (wTup (wCons (wTup (wCons (wOp aAdd (wVar 2) (wVar 3)) wNil)) (wCons (wTup (wCons (wVar 2) (wCons (wVar 3) wNil))) wNil)))) wNext) (wSeq (wIf (wTest (wOp (aEq false) (wVar 1) (wC (.int 2)))) (wRet (wTup (wCons (wTup (wCons (wOp aMul (wC (.int 2)) (wOp aAdd (wVar 2) (wVar 3))) (wCons (wVar 3) wNil))) (wCons (wTup (wCons (wOp aAdd (wVar 2) (wVar 3)) (wCons (wOp aMul (wC (.int 2)) (wVar 3)) (wCons (wVar 2) wNil)))) wNil)))) wNext) (wSeq (wIf (wTest (wOp (aEq false) (wVar 1) (wC (.int 3)))) (wRet (wTup (wCons (wTup (wCons (wOp aMul (wC (.int 2)) (wVar 2)) (wCons (wOp aMul (wC (.int 2)) (wVar 3)) wNil))) (wCons (wTup (wCons (wVar 2) (wCons (wVar 3) (wCons (wOp aAdd (wVar 2) (wVar 3)) wNil)))) wNil)))) wNext) (wSeq (wIf (wTest (wOp (aEq false) (wVar 1) (wC (.int 4)))) (wSeq (wSet 4 (wLst (wCons (wTup (wCons (wTup (wCons (wC (.int 30)) (wCons (wC (.int 1)) wNil))) (wCons (wTup (wCons (wC (.int 15)) (wCons (wC (.int 10)) (wCons (wC (.int 6)) wNil)))) wNil))) (wCons (wTup (wCons (wTup (wCons (wC (.int 12)) (wCons (wC (.int 1)) wNil))) (wCons (wTup (wCons (wC (.int 6)) (wCons (wC (.int 4)) (wCons (wC (.int 3)) wNil)))) wNil))) (wCons (wTup (wCons (wTup (wCons (wC (.int 12)) (wCons (wC (.int 3)) wNil))) (wCons (wTup (wCons (wC (.int 8)) (wCons (wC (.int 6)) (wCons (wC (.int 1)) wNil)))) wNil))) (wCons (wTup (wCons (wTup (wCons (wC (.int 20)) (wCons (wC (.int 1)) wNil))) (wCons (wTup (wCons (wC (.int 10)) (wCons (wC (.int 8)) (wCons (wC (.int 3)) wNil)))) wNil))) (wCons (wTup (wCons (wTup (wCons (wC (.int 10)) (wCons (wC (.int 1)) wNil))) (wCons (wTup (wCons (wC (.int 5)) (wCons (wC (.int 4)) (wCons (wC (.int 2)) wNil)))) wNil))) wNil))))))) (wRet (wCall sp__law_one_of (wCons (wVar 0) (wCons (wVar 4) wNil))))) wNext) (wSeq (wIf (wTest (wOp (aEq false) (wVar 1) (wC (.int 5)))) (wSeq (wSet 5 (wLc (wIR1 (wCons (wOp aAdd (wC (.int 2)) (wCall sp__law_grab (wCons (wVar 0) (wCons (wC (.int 4)) wNil)))) wNil)) (gN 6) wYes (wOp aAdd (wC (.int 1)) (wCall sp__law_grab (wCons (wVar 0) (wCons (wC (.int 4)) wNil)))) [6])) (wRet (wTup (wCons (wTup (wCons (wCall aSum (wCons (wVar 5) wNil)) wNil)) (wCons (wCall aTuple (wCons (wVar 5) wNil)) wNil))))) wNext) (wSeq (wIf (wTest (wOp (aEq false) (wVar 1) (wC (.int 6)))) (wRet (wTup (wCons (wTup (wCons (wOp aAdd (wVar 2) (wVar 3)) (wCons (wOp aMul (wC (.int 2)) (wVar 3)) wNil))) (wCons (wTup (wCons (wVar 2) (wCons (wVar 3) (wCons (wVar 3) (wCons (wVar 3) wNil))))) wNil)))) wNext) (wSeq (wSet 7 (wLc (wIR1 (wCons (wOp aAdd (wC (.int 1)) (wCall sp__law_grab (wCons (wVar 0) (wCons (wC (.int 3)) wNil)))) wNil)) (gN 6) wYes (wOp aAdd (wC (.int 1)) (wCall sp__law_grab (wCons (wVar 0) (wCons (wC (.int 12)) wNil)))) [6])) (wSeq (wPar2 8 9 .frz .frz (wCall aSum (wCons (wVar 7) wNil)) (wLst wNil)) (wSeq (wFor (wIR1 (wCons (wC (.int 7)) wNil)) (gN 6) (wSeq (wSet 10 (wCall aMin2 (wCons (wVar 8) (wCons (wOp aAdd (wC (.int 1)) (wCall sp__law_grab (wCons (wVar 0) (wCons (wC (.int 8)) wNil)))) wNil)))) (wPar2 9 8 .frz .frz (wOp aCat (wVar 9) (wIfE (wTest (wOp aGt (wVar 10) (wC (.int 0)))) (wLst (wCons (wVar 10) wNil)) (wLst wNil))) (wOp aSub (wVar 8) (wVar 10))))) (wRet (wTup (wCons (wCall aTuple (wCons (wVar 7) wNil)) (wCons (wCall aTuple (wCons (wOp aCat (wVar 9) (wIfE (wTest (wOp aGt (wVar 8) (wC (.int 0)))) (wLst (wCons (wVar 8) wNil)) (wLst wNil))) wNil)) wNil))))))))))))))
theorem b__law_told_balanced (T : Txt P w K mg base Z) (f : Addr) (cdv : Value) (A : Around) (outer : List Env) (s : Shared) (H : Hp) (E : XK) (hr : Room 2 (A.deeper (envOfC "_law_told_balanced" (defScope (topAt 76)) s.heap.objs.size f cdv))) :
    PSs (cxOf CX0 P w K mg base N__law_told_balanced "_law_told_balanced" (defScope (topAt 76)) f cdv A outer s H E).nox (defBody (topAt 76)) (tS Z wb__law_told_balanced) :=
  (pds_cons (pd_par3 (i := 1) (j := 2) (l := 3) (k1 := .frz) (k2 := .frz) (k3 := .frz) (by decide) (by decide) (by decide) rfl sc__law_told_balanced.nd rfl rfl rfl (by decide) (by decide) (by decide) rfl rfl rfl (pd_call (cal__law_grab T) hr (by decide) rfl (pd_cons (pd_var (i := 0) rfl (.inr (.inl rfl))) (pd_cons pd_int pd_nil))) (pd_op op_add od_add (pe_vw pd_int) (pe_vw (pd_call (cal__law_grab T) hr (by decide) rfl (pd_cons (pd_var (i := 0) rfl (.inr (.inl rfl))) (pd_cons pd_int pd_nil))))) (pd_op op_add od_add (pe_vw pd_int) (pe_vw (pd_call (cal__law_grab T) hr (by decide) rfl (pd_cons (pd_var (i := 0) rfl (.inr (.inl rfl))) (pd_cons pd_int pd_nil))))) (by rfl))
    (pds_cons (pd_if (pt_cmpD op_lt od_lt (pe_vw (pd_var (i := 1) rfl (.inl rfl))) (pe_vw pd_int)) (pds_one (pd_ret (pd_tup (pd_cons (pd_tup (pd_cons (pd_op op_add od_add (pe_vw (pd_var (i := 2) rfl (.inl rfl))) (pe_vw (pd_var (i := 3) rfl (.inl rfl)))) pd_nil)) (pd_cons (pd_tup (pd_cons (pd_var (i := 2) rfl (.inl rfl)) (pd_cons (pd_var (i := 3) rfl (.inl rfl)) pd_nil))) pd_nil))))) pds_nil)
    (pds_cons (pd_if (pt_cmpD (op_eqD hr.units) (od_eq T.z.k) (pe_vw (pd_var (i := 1) rfl (.inl rfl))) (pe_vw pd_int)) (pds_one (pd_ret (pd_tup (pd_cons (pd_tup (pd_cons (pd_op op_mulW od_mul (pe_vw pd_int) (pe_vw (pd_op op_add od_add (pe_vw (pd_var (i := 2) rfl (.inl rfl))) (pe_vw (pd_var (i := 3) rfl (.inl rfl)))))) (pd_cons (pd_var (i := 3) rfl (.inl rfl)) pd_nil))) (pd_cons (pd_tup (pd_cons (pd_op op_add od_add (pe_vw (pd_var (i := 2) rfl (.inl rfl))) (pe_vw (pd_var (i := 3) rfl (.inl rfl)))) (pd_cons (pd_op op_mulW od_mul (pe_vw pd_int) (pe_vw (pd_var (i := 3) rfl (.inl rfl)))) (pd_cons (pd_var (i := 2) rfl (.inl rfl)) pd_nil)))) pd_nil))))) pds_nil)
    (pds_cons (pd_if (pt_cmpD (op_eqD hr.units) (od_eq T.z.k) (pe_vw (pd_var (i := 1) rfl (.inl rfl))) (pe_vw pd_int)) (pds_one (pd_ret (pd_tup (pd_cons (pd_tup (pd_cons (pd_op op_mulW od_mul (pe_vw pd_int) (pe_vw (pd_var (i := 2) rfl (.inl rfl)))) (pd_cons (pd_op op_mulW od_mul (pe_vw pd_int) (pe_vw (pd_var (i := 3) rfl (.inl rfl)))) pd_nil))) (pd_cons (pd_tup (pd_cons (pd_var (i := 2) rfl (.inl rfl)) (pd_cons (pd_var (i := 3) rfl (.inl rfl)) (pd_cons (pd_op op_add od_add (pe_vw (pd_var (i := 2) rfl (.inl rfl))) (pe_vw (pd_var (i := 3) rfl (.inl rfl)))) pd_nil)))) pd_nil))))) pds_nil)
    (pds_cons (pd_if (pt_cmpD (op_eqD hr.units) (od_eq T.z.k) (pe_vw (pd_var (i := 1) rfl (.inl rfl))) (pe_vw pd_int)) (pds_cons (pd_set (i := 4) sc__law_told_balanced.nd rfl (.inl rfl) (pe_frz (pd_lst (pd_cons (pd_tup (pd_cons (pd_tup (pd_cons pd_int (pd_cons pd_int pd_nil))) (pd_cons (pd_tup (pd_cons pd_int (pd_cons pd_int (pd_cons pd_int pd_nil)))) pd_nil))) (pd_cons (pd_tup (pd_cons (pd_tup (pd_cons pd_int (pd_cons pd_int pd_nil))) (pd_cons (pd_tup (pd_cons pd_int (pd_cons pd_int (pd_cons pd_int pd_nil)))) pd_nil))) (pd_cons (pd_tup (pd_cons (pd_tup (pd_cons pd_int (pd_cons pd_int pd_nil))) (pd_cons (pd_tup (pd_cons pd_int (pd_cons pd_int (pd_cons pd_int pd_nil)))) pd_nil))) (pd_cons (pd_tup (pd_cons (pd_tup (pd_cons pd_int (pd_cons pd_int pd_nil))) (pd_cons (pd_tup (pd_cons pd_int (pd_cons pd_int (pd_cons pd_int pd_nil)))) pd_nil))) (pd_cons (pd_tup (pd_cons (pd_tup (pd_cons pd_int (pd_cons pd_int pd_nil))) (pd_cons (pd_tup (pd_cons pd_int (pd_cons pd_int (pd_cons pd_int pd_nil)))) pd_nil))) pd_nil))))))))
    (pds_one (pd_ret (pd_call (cal__law_one_of T) hr (by decide) rfl (pd_cons (pd_var (i := 0) rfl (.inr (.inl rfl))) (pd_cons (pd_var (i := 4) rfl (.inl rfl)) pd_nil)))))) pds_nil)
    (pds_cons (pd_if (pt_cmpD (op_eqD hr.units) (od_eq T.z.k) (pe_vw (pd_var (i := 1) rfl (.inl rfl))) (pe_vw pd_int)) (pds_cons (pd_setLc (i := 5) (own := [("_law_turn", 6)]) (is := [6]) rfl sc__law_told_balanced.nd rfl rfl (sw_true rfl rfl rfl (by decide +kernel)) (pd_ir1 rfl T.h_range (pd_consV (pe_vw (pd_op op_add od_add (pe_vw pd_int) (pe_vw (pd_call (cal__law_grab T) hr (by decide) rfl (pd_cons (pd_var (i := 0) rfl (.inr (.inl rfl))) (pd_cons pd_int pd_nil)))))) pd_nil)) (blkOk_by (N := N__law_told_balanced) (sc := defScope (topAt 76)) (by decide +kernel)) (fun _ _ _ _ _ => (pd_gn (i := 6) (is := [6]) (by decide) sc__law_told_balanced.nd rfl (.inl rfl))) (fun _ _ _ _ _ => pd_yes) (fun _ _ _ _ _ => (pd_op op_add od_add (pe_vw pd_int) (pe_vw (pd_call (cal__law_grab T) hr (by decide) rfl (pd_cons (pd_var (i := 0) rfl (.inr (.inl rfl))) (pd_cons pd_int pd_nil)))))) (by decide))
    (pds_one (pd_ret (pd_tup (pd_cons (pd_tup (pd_cons (pd_callB (cd_sum T.z.k) (sum_any rfl) rfl T.h_sum boot_sum (pd_consV (pe_vw (pd_var (i := 5) rfl (.inl rfl))) pd_nil)) pd_nil)) (pd_cons (pd_callTy (cd_tuple T.z.k) call_tuple_of rfl T.h_tuple boot_tuple (pd_consV (pe_vw (pd_var (i := 5) rfl (.inl rfl))) pd_nil)) pd_nil)))))) pds_nil)
    (pds_cons (pd_if (pt_cmpD (op_eqD hr.units) (od_eq T.z.k) (pe_vw (pd_var (i := 1) rfl (.inl rfl))) (pe_vw pd_int)) (pds_one (pd_ret (pd_tup (pd_cons (pd_tup (pd_cons (pd_op op_add od_add (pe_vw (pd_var (i := 2) rfl (.inl rfl))) (pe_vw (pd_var (i := 3) rfl (.inl rfl)))) (pd_cons (pd_op op_mulW od_mul (pe_vw pd_int) (pe_vw (pd_var (i := 3) rfl (.inl rfl)))) pd_nil))) (pd_cons (pd_tup (pd_cons (pd_var (i := 2) rfl (.inl rfl)) (pd_cons (pd_var (i := 3) rfl (.inl rfl)) (pd_cons (pd_var (i := 3) rfl (.inl rfl)) (pd_cons (pd_var (i := 3) rfl (.inl rfl)) pd_nil))))) pd_nil))))) pds_nil)
    (pds_cons (pd_setLc (i := 7) (own := [("_law_turn", 6)]) (is := [6]) rfl sc__law_told_balanced.nd rfl rfl (sw_true rfl rfl rfl (by decide +kernel)) (pd_ir1 rfl T.h_range (pd_consV (pe_vw (pd_op op_add od_add (pe_vw pd_int) (pe_vw (pd_call (cal__law_grab T) hr (by decide) rfl (pd_cons (pd_var (i := 0) rfl (.inr (.inl rfl))) (pd_cons pd_int pd_nil)))))) pd_nil)) (blkOk_by (N := N__law_told_balanced) (sc := defScope (topAt 76)) (by decide +kernel)) (fun _ _ _ _ _ => (pd_gn (i := 6) (is := [6]) (by decide) sc__law_told_balanced.nd rfl (.inl rfl))) (fun _ _ _ _ _ => pd_yes) (fun _ _ _ _ _ => (pd_op op_add od_add (pe_vw pd_int) (pe_vw (pd_call (cal__law_grab T) hr (by decide) rfl (pd_cons (pd_var (i := 0) rfl (.inr (.inl rfl))) (pd_cons pd_int pd_nil)))))) (by decide))
    (pds_cons (pd_par2 (i := 8) (j := 9) (k1 := .frz) (k2 := .frz) (by decide) (by decide) rfl sc__law_told_balanced.nd rfl rfl (by decide) rfl rfl (pd_callB (cd_sum T.z.k) (sum_any rfl) rfl T.h_sum boot_sum (pd_consV (pe_vw (pd_var (i := 7) rfl (.inl rfl))) pd_nil)) (pe_frz (pd_lst pd_nil)) (by rfl))
    (pds_cons (pd_for (pd_ir1 rfl T.h_range (pd_consV (pe_vw pd_int) pd_nil)) (pd_gn (i := 6) (is := [6]) (by decide) sc__law_told_balanced.nd rfl (.inl rfl)) (pds_cons (pd_set (i := 10) sc__law_told_balanced.nd rfl (.inl rfl) (pd_callB cd_two (call_min2 rfl) rfl T.h_min boot_min (pd_consV (pe_vw (pd_var (i := 8) rfl (.inl rfl))) (pd_consV (pe_vw (pd_op op_add od_add (pe_vw pd_int) (pe_vw (pd_call (cal__law_grab T) hr (by decide) rfl (pd_cons (pd_var (i := 0) rfl (.inr (.inl rfl))) (pd_cons pd_int pd_nil)))))) pd_nil))))
    (pds_one (pd_par2 (i := 9) (j := 8) (k1 := .frz) (k2 := .frz) (by decide) (by decide) rfl sc__law_told_balanced.nd rfl rfl (by decide) rfl rfl (pe_frz (pd_op op_cat od_cat (pe_vw (pd_var (i := 9) rfl (.inl rfl))) (pe_vw (pd_ifE (pt_cmpD op_gt od_gt (pe_vw (pd_var (i := 10) rfl (.inl rfl))) (pe_vw pd_int)) (pe_frz (pd_lst (pd_cons (pd_var (i := 10) rfl (.inl rfl)) pd_nil))) (pe_frz (pd_lst pd_nil)))))) (pd_op op_sub od_sub (pe_vw (pd_var (i := 8) rfl (.inl rfl))) (pe_vw (pd_var (i := 10) rfl (.inl rfl)))) (by rfl)))) PassesOwn.never rfl)
    (pds_one (pd_ret (pd_tup (pd_cons (pd_callTy (cd_tuple T.z.k) call_tuple_of rfl T.h_tuple boot_tuple (pd_consV (pe_vw (pd_var (i := 7) rfl (.inl rfl))) pd_nil)) (pd_cons (pd_callTy (cd_tuple T.z.k) call_tuple_of rfl T.h_tuple boot_tuple (pd_consV (pe_nv (pd_op op_cat od_cat (pe_vw (pd_var (i := 9) rfl (.inl rfl))) (pe_vw (pd_ifE (pt_cmpD op_gt od_gt (pe_vw (pd_var (i := 8) rfl (.inl rfl))) (pe_vw pd_int)) (pe_frz (pd_lst (pd_cons (pd_var (i := 8) rfl (.inl rfl)) pd_nil))) (pe_frz (pd_lst pd_nil)))))) pd_nil)) pd_nil)))))))))))))))
end
def Sm (ts bs : List Int) : Prop := (∀ m ∈ ts ++ bs, 0 ≤ m ∧ m ≤ 200) ∧ ts.length ≤ 10 ∧ bs.length ≤ 10
def sp__law_told_balanced : WL := fun ds Q => ds = [.bag] ∧ ∀ ts bs : List Int, Sm ts bs → Q (twoD ts bs)
theorem grab_le {t : Int} {P : D → Prop} (h1 : 1 ≤ t) (h2 : t ≤ 10 ^ 30) (h : ∀ r : Int, 0 ≤ r → r < t → P (.int r)) : sp__law_grab [.bag, .int t] P := ⟨t, rfl, h1, h2, h⟩
theorem grab_eq (t : Int) (P : D → Prop) : sp__law_grab [.bag, .int t] P = (1 ≤ t ∧ t ≤ 10 ^ 30 ∧ ∀ r : Int, 0 ≤ r → r < t → P (.int r)) := by
  apply propext
  constructor
  · rintro ⟨_, e, h⟩; cases e; exact h
  · exact fun h => ⟨t, rfl, h⟩
theorem ints_all {lo hi : Int} : ∀ {ys : List D}, (∀ y ∈ ys, ∃ i : Int, y = .int i ∧ lo ≤ i ∧ i ≤ hi) → ∃ is : List Int, ys = is.map D.int ∧ ∀ i ∈ is, lo ≤ i ∧ i ≤ hi
  | [], _ => ⟨[], rfl, fun _ h => by cases h⟩
  | y :: ys, h => by
    obtain ⟨i, rfl, h1⟩ := h y List.mem_cons_self
    obtain ⟨is, rfl, h2⟩ := ints_all fun z hz => h z (List.mem_cons_of_mem _ hz)
    exact ⟨i :: is, rfl, fun k hk => by
      rcases List.mem_cons.mp hk with rfl | hk
      · exact h1
      · exact h2 k hk⟩
theorem sum_bound {hi : Int} : ∀ {is : List Int}, (∀ i ∈ is, 0 ≤ i ∧ i ≤ hi) → 0 ≤ is.sum ∧ is.sum ≤ hi * is.length
  | [], _ => by simp
  | i :: is, h => by
    have h1 := h i List.mem_cons_self
    have h2 := sum_bound fun k hk => h k (List.mem_cons_of_mem _ hk)
    rw [List.sum_cons, List.length_cons, Int.natCast_succ, Int.mul_add, Int.mul_one]
    omega
theorem gap_loop (E : EndsD) (v1 v2 v3 v4 v5 v7 : Sl) : ∀ (k : Nat) (j gap : Int) (found : List Int) (s6 s10 : Sl), 0 ≤ gap → gap ≤ 60 → (∀ m ∈ found, 0 ≤ m ∧ m ≤ 200) → found.length + k ≤ 7 →
    (∀ (gap : Int) (found : List Int) s6 s10, 0 ≤ gap → gap ≤ 60 → (∀ m ∈ found, 0 ≤ m ∧ m ≤ 200) → found.length ≤ 7 → E.nx [.val .bag, v1, v2, v3, v4, v5, s6, v7, .val (.int gap), .val (.lst (found.map D.int)), s10]) →
    forD (gN 6) (wSeq (wSet 10 (wCall aMin2 (wCons (wVar 8) (wCons (wOp aAdd (wC (D.int 1)) (wCall sp__law_grab (wCons (wVar 0) (wCons (wC (D.int 8)) wNil)))) wNil))))
      (wPar2 9 8 Kd.frz Kd.frz (wOp aCat (wVar 9) (wIfE (wTest (wOp aGt (wVar 10) (wC (D.int 0)))) (wLst (wCons (wVar 10) wNil)) (wLst wNil))) (wOp aSub (wVar 8) (wVar 10)))) E (rngD j k) [.val .bag, v1, v2, v3, v4, v5, s6, v7, .val (.int gap), .val (.lst (found.map D.int)), s10]
  | 0, j, gap, found, s6, s10, h1, h2, h3, h4, q => q gap found s6 s10 h1 h2 h3 h4
  | k + 1, j, gap, found, s6, s10, h1, h2, h3, h4, q => by
    rw [rngD_succ, forD]
    simp [grab_eq, -forD]
    intro r r0 r1
    have hsz := size_big
    have h0 : 0 ≤ (if 1 + r < gap then 1 + r else gap) ∧ (if 1 + r < gap then 1 + r else gap) ≤ gap := by split <;> omega
    revert h0
    generalize (if 1 + r < gap then 1 + r else gap) = one
    rintro ⟨o1, o2⟩
    by_cases e : 0 < one
    · refine .inr ⟨e, by omega, ?_⟩
      have z := gap_loop E v1 v2 v3 v4 v5 v7 k (j + 1) (gap - one) (found ++ [one]) (.val (.int j)) (.val (.int one)) (by omega) (by omega) (fun m hm => by
        rcases List.mem_append.mp hm with hm | hm
        · exact h3 m hm
        · rw [List.mem_singleton.mp hm]; omega) (by rw [List.length_append, List.length_singleton]; omega) q
      rw [List.map_append] at z
      exact z
    · refine .inl ⟨by omega, by omega, ?_⟩
      exact gap_loop E v1 v2 v3 v4 v5 v7 k (j + 1) (gap - one) found (.val (.int j)) (.val (.int one)) (by omega) (by omega) h3 (by omega) q
theorem imp__law_told_balanced : ∀ ds Q, sp__law_told_balanced ds Q → ds.length = 1 ∧ wFn N__law_told_balanced wb__law_told_balanced ds Q := by
  rintro ds Q ⟨rfl, q⟩
  refine ⟨rfl, ?_⟩
  have hsz := size_big
  have qq : ∀ ts bs : List Int, (∀ m ∈ ts ++ bs, 0 ≤ m ∧ m ≤ 200) → ts.length ≤ 10 → bs.length ≤ 10 → Q (twoD ts bs) := fun ts bs h1 h2 h3 => q ts bs ⟨h1, h2, h3⟩
  simp [wb__law_told_balanced, N__law_told_balanced, grab_eq, -lcD, -forD]
  intro way w0 w1 a a0 a1 b b0 b1
  have cm : ∀ x : Int, 0 ≤ x → x ≤ 100 → CMulW 2 x := fun x h1 h2 => mulW_of (a := 10) (b := 10) (by decide) (by omega)
  by_cases e2 : way < 2
  · refine .inr ⟨e2, qq [1 + a + (1 + b)] [1 + a, 1 + b] ?_ (by simp) (by simp)⟩
    simp; omega
  refine .inl ⟨by omega, ?_⟩
  by_cases e3 : way = 2
  · rw [if_pos e3]
    refine ⟨cm _ (by omega) (by omega), cm _ (by omega) (by omega), qq [2 * (1 + a + (1 + b)), 1 + b] [1 + a + (1 + b), 2 * (1 + b), 1 + a] ?_ (by simp) (by simp)⟩
    simp; omega
  rw [if_neg e3]
  by_cases e3 : way = 3
  · rw [if_pos e3]
    refine ⟨cm _ (by omega) (by omega), cm _ (by omega) (by omega), qq [2 * (1 + a), 2 * (1 + b)] [1 + a, 1 + b, 1 + a + (1 + b)] ?_ (by simp) (by simp)⟩
    simp; omega
  rw [if_neg e3]
  by_cases e3 : way = 4
  · rw [if_pos e3]
    refine ⟨_, _, rfl, rfl, by simp, by decide, fun x hx => ?_⟩
    simp only [List.mem_cons, List.not_mem_nil, or_false] at hx
    rcases hx with rfl | rfl | rfl | rfl | rfl
    · exact qq [30, 1] [15, 10, 6] (by decide) (by decide) (by decide)
    · exact qq [12, 1] [6, 4, 3] (by decide) (by decide) (by decide)
    · exact qq [12, 3] [8, 6, 1] (by decide) (by decide) (by decide)
    · exact qq [20, 1] [10, 8, 3] (by decide) (by decide) (by decide)
    · exact qq [10, 1] [5, 4, 2] (by decide) (by decide) (by decide)
  rw [if_neg e3]
  by_cases e3 : way = 5
  · rw [if_pos e3]
    intro r r0 r1
    refine ⟨by omega, ?_⟩
    rw [rngD_eq]
    refine lc_any D.int (fun d => ∃ i : Int, d = .int i ∧ 0 ≤ i ∧ i ≤ 4) (rngI 0 (2 + r).toNat) [] (fun k hk K1 k1 => ?_) (by rw [rngI_len]; simp; omega) fun ys hl hy => ?_
    · simp [grab_eq]
      exact fun s s0 s1 => k1 _ ⟨_, rfl, by omega, by omega⟩
    · obtain ⟨is, rfl, hi⟩ := ints_all hy
      rw [rngI_len, List.length_map] at hl
      have hb := sum_bound hi
      refine ⟨is, isInts_l is, qq [is.sum] is (fun m hm => ?_) (by simp) (by omega)⟩
      rcases List.mem_append.mp hm with hm | hm
      · rw [List.mem_singleton.mp hm]; omega
      · have := hi m hm; omega
  rw [if_neg e3]
  by_cases e3 : way = 6
  · rw [if_pos e3]
    refine ⟨cm _ (by omega) (by omega), qq [1 + a + (1 + b), 2 * (1 + b)] [1 + a, 1 + b, 1 + b, 1 + b] ?_ (by simp) (by simp)⟩
    simp; omega
  rw [if_neg e3]
  intro r r0 r1
  refine ⟨by omega, ?_⟩
  rw [rngD_eq 0 (1 + r).toNat]
  refine lc_any D.int (fun d => ∃ i : Int, d = .int i ∧ 0 ≤ i ∧ i ≤ 12) (rngI 0 (1 + r).toNat) [] (fun k hk K1 k1 => ?_) (by rw [rngI_len]; simp; omega) fun ys hl hy => ?_
  · simp [grab_eq]
    exact fun s s0 s1 => k1 _ ⟨_, rfl, by omega, by omega⟩
  · obtain ⟨is, rfl, hi⟩ := ints_all hy
    rw [rngI_len, List.length_map] at hl
    have hb := sum_bound hi
    refine ⟨is, isInts_l is, ?_⟩
    refine gap_loop _ _ _ _ _ _ _ 7 0 is.sum [] .no .no (by omega) (by omega) (fun m hm => by cases hm) (by decide) fun gap found s6 s10 g0 g1 hf fl => ?_
    have hi' : ∀ m ∈ is, 0 ≤ m ∧ m ≤ 200 := fun m hm => by have := hi m hm; omega
    simp
    by_cases e : 0 < gap
    · refine .inr ⟨e, by omega, ?_⟩
      have := qq is (found ++ [gap]) (fun m hm => by
        rcases List.mem_append.mp hm with hm | hm
        · exact hi' m hm
        · rcases List.mem_append.mp hm with hm | hm
          · exact hf m hm
          · rw [List.mem_singleton.mp hm]; omega) (by omega) (by rw [List.length_append, List.length_singleton]; omega)
      simpa [twoD] using this
    · refine .inl ⟨by omega, by omega, ?_⟩
      exact qq is found (fun m hm => by
        rcases List.mem_append.mp hm with hm | hm
        · exact hi' m hm
        · exact hf m hm) (by omega) (by omega)
theorem cal__law_told_balanced {P : Program} {w : World} {K : PySem.W.Frag} {mg : Str → Option Value} {base : Heap} {Z : Zc} (T : Txt P w K mg base Z) : Cal P w K mg base Z 3 "_law_told_balanced" sp__law_told_balanced :=
  cal_of T.d__law_told_balanced sc__law_told_balanced imp__law_told_balanced fun f cdv A outer s H E hr => b__law_told_balanced T f cdv A outer s H E hr
section
variable {P : Program} {w : World} {K : PySem.W.Frag} {mg : Str → Option Value} {base : Heap} {Z : Zc}
/-! ### _law_any_balanced -/
def N__law_any_balanced : List Str := ["_law_bag_here", "_law_many", "_law_tops", "_law_bottoms", "_law_one", "_law_more"]
theorem sc__law_any_balanced : FnScope N__law_any_balanced ["_law_bag_here"] (defScope (topAt 77)) := ⟨rfl, rfl, rfl, by decide +kernel, rfl, by decide +kernel, by decide +kernel⟩
def wb__law_any_balanced : WS := (wSeq (wSet 1 (wCall sp__law_one_of (wCons (wVar 0) (wCons (wLst (wCons (wC (.int 1)) (wCons (wC (.int 1)) (wCons (wC (.int 1)) (wCons (wC (.int 2)) (wCons (wC (.int 3)) wNil)))))) wNil)))) (wSeq (wAsg (wCall sp__law_told_balanced (wCons (wVar 0) wNil)) (gT 2 (gsC (gN 2) (gsC (gN 3) gsN)))) (wSeq (wPar2 2 3 .frz .frz (wLc (wISeq (wVar 2)) (gN 4) wYes (wOp aMul (wVar 1) (wVar 4)) [4]) (wLc (wISeq (wVar 3)) (gN 4) wYes (wOp aMul (wVar 1) (wVar 4)) [4])) (wSeq (wIf (wTest (wOp (aEq false) (wCall sp__law_grab (wCons (wVar 0) (wCons (wC (.int 5)) wNil))) (wC (.int 0)))) (wSeq (wSet 5 (wCall sp__law_told_balanced (wCons (wVar 0) wNil))) (wPar2 2 3 .frz .frz (wOp aCat (wVar 2) (wCall aList (wCons (wOp aIx (wVar 5) (wC (.int 0))) wNil))) (wOp aCat (wVar 3) (wCall aList (wCons (wOp aIx (wVar 5) (wC (.int 1))) wNil))))) wNext) (wSeq (wIf (wTest (wOp (aEq false) (wCall sp__law_grab (wCons (wVar 0) (wCons (wC (.int 8)) wNil))) (wC (.int 0)))) (wPar2 2 3 .frz .frz (wVar 3) (wVar 2)) wNext) (wSeq (wAsg (wCall sp__law_without_shared (wCons (wVar 2) (wCons (wVar 3) wNil))) (gT 2 (gsC (gN 2) (gsC (gN 3) gsN)))) (wRet (wIfE (wTest (wCall sp__law_is_row_let (wCons (wVar 2) (wCons (wVar 3) wNil)))) (wTup (wCons (wVar 2) (wCons (wVar 3) wNil))) (wTup (wCons (wTup (wCons (wC (.int 2)) wNil)) (wCons (wTup (wCons (wC (.int 1)) (wCons (wC (.int 1)) wNil))) wNil)))))))))))
theorem b__law_any_balanced (T : Txt P w K mg base Z) (f : Addr) (cdv : Value) (A : Around) (outer : List Env) (s : Shared) (H : Hp) (E : XK) (hr : Room 3 (A.deeper (envOfC "_law_any_balanced" (defScope (topAt 77)) s.heap.objs.size f cdv))) :
    PSs (cxOf CX0 P w K mg base N__law_any_balanced "_law_any_balanced" (defScope (topAt 77)) f cdv A outer s H E).nox (defBody (topAt 77)) (tS Z wb__law_any_balanced) :=
  (pds_cons (pd_set (i := 1) sc__law_any_balanced.nd rfl (.inr rfl) (pd_call (cal__law_one_of T) hr (by decide) rfl (pd_cons (pd_var (i := 0) rfl (.inl rfl)) (pd_cons (pe_frz (pd_lst (pd_cons pd_int (pd_cons pd_int (pd_cons pd_int (pd_cons pd_int (pd_cons pd_int pd_nil))))))) pd_nil))))
    (pds_cons (pd_asg (pd_call (cal__law_told_balanced T) hr (by decide) rfl (pd_cons (pd_var (i := 0) rfl (.inl rfl)) pd_nil)) (pd_gt (n := 2) T.z.k rfl (pd_gsc (pd_gn (i := 2) (is := [2, 3]) (by decide) sc__law_any_balanced.nd rfl (.inl rfl)) (pd_gsc (pd_gn (i := 3) (is := [2, 3]) (by decide) sc__law_any_balanced.nd rfl (.inl rfl)) pd_gsn))))
    (pds_cons (pd_par2 (i := 2) (j := 3) (k1 := .frz) (k2 := .frz) (by decide) (by decide) rfl sc__law_any_balanced.nd rfl rfl (by decide) rfl rfl (pe_frz (pd_lc (own := [("_law_one", 4)]) (is := [4]) rfl sc__law_any_balanced.nd (pd_iseq T.z.k (pd_var (i := 2) rfl (.inl rfl))) (blkOk_by (N := N__law_any_balanced) (sc := defScope (topAt 77)) (by decide +kernel)) (fun _ _ _ _ _ => (pd_gn (i := 4) (is := [4]) (by decide) sc__law_any_balanced.nd rfl (.inl rfl))) (fun _ _ _ _ _ => pd_yes) (fun _ _ _ _ _ => (pd_op op_mulW od_mul (pe_vw (pd_var (i := 1) rfl (.inr (.inl rfl)))) (pe_vw (pd_var (i := 4) rfl (.inl rfl))))) (by decide))) (pe_frz (pd_lc (own := [("_law_one", 4)]) (is := [4]) rfl sc__law_any_balanced.nd (pd_iseq T.z.k (pd_var (i := 3) rfl (.inl rfl))) (blkOk_by (N := N__law_any_balanced) (sc := defScope (topAt 77)) (by decide +kernel)) (fun _ _ _ _ _ => (pd_gn (i := 4) (is := [4]) (by decide) sc__law_any_balanced.nd rfl (.inl rfl))) (fun _ _ _ _ _ => pd_yes) (fun _ _ _ _ _ => (pd_op op_mulW od_mul (pe_vw (pd_var (i := 1) rfl (.inr (.inl rfl)))) (pe_vw (pd_var (i := 4) rfl (.inl rfl))))) (by decide))) (by rfl))
    (pds_cons (pd_if (pt_cmpD (op_eqD hr.units) (od_eq T.z.k) (pe_vw (pd_call (cal__law_grab T) hr (by decide) rfl (pd_cons (pd_var (i := 0) rfl (.inl rfl)) (pd_cons pd_int pd_nil)))) (pe_vw pd_int)) (pds_cons (pd_set (i := 5) sc__law_any_balanced.nd rfl (.inl rfl) (pd_call (cal__law_told_balanced T) hr (by decide) rfl (pd_cons (pd_var (i := 0) rfl (.inl rfl)) pd_nil)))
    (pds_one (pd_par2 (i := 2) (j := 3) (k1 := .frz) (k2 := .frz) (by decide) (by decide) rfl sc__law_any_balanced.nd rfl rfl (by decide) rfl rfl (pe_frz (pd_op op_cat od_cat (pe_vw (pd_var (i := 2) rfl (.inl rfl))) (pe_nv (pd_callTy (cd_list T.z.k) call_list_of rfl T.h_list boot_list (pd_consV (pe_vw (pd_ix T.z.k (pe_vw (pd_var (i := 5) rfl (.inl rfl))) (pe_vw pd_int))) pd_nil))))) (pe_frz (pd_op op_cat od_cat (pe_vw (pd_var (i := 3) rfl (.inl rfl))) (pe_nv (pd_callTy (cd_list T.z.k) call_list_of rfl T.h_list boot_list (pd_consV (pe_vw (pd_ix T.z.k (pe_vw (pd_var (i := 5) rfl (.inl rfl))) (pe_vw pd_int))) pd_nil))))) (by rfl)))) pds_nil)
    (pds_cons (pd_if (pt_cmpD (op_eqD hr.units) (od_eq T.z.k) (pe_vw (pd_call (cal__law_grab T) hr (by decide) rfl (pd_cons (pd_var (i := 0) rfl (.inl rfl)) (pd_cons pd_int pd_nil)))) (pe_vw pd_int)) (pds_one (pd_par2 (i := 2) (j := 3) (k1 := .frz) (k2 := .frz) (by decide) (by decide) rfl sc__law_any_balanced.nd rfl rfl (by decide) rfl rfl (pd_var (i := 3) rfl (.inl rfl)) (pd_var (i := 2) rfl (.inl rfl)) (by rfl))) pds_nil)
    (pds_cons (pd_asg (pd_call (cal__law_without_shared T) hr (by decide) rfl (pd_cons (pd_var (i := 2) rfl (.inl rfl)) (pd_cons (pd_var (i := 3) rfl (.inl rfl)) pd_nil))) (pd_gt (n := 2) T.z.k rfl (pd_gsc (pd_gn (i := 2) (is := [2, 3]) (by decide) sc__law_any_balanced.nd rfl (.inl rfl)) (pd_gsc (pd_gn (i := 3) (is := [2, 3]) (by decide) sc__law_any_balanced.nd rfl (.inl rfl)) pd_gsn))))
    (pds_one (pd_ret (pd_ifE (pt_valD (pd_call (cal__law_is_row_let T) hr (by decide) rfl (pd_cons (pd_var (i := 2) rfl (.inl rfl)) (pd_cons (pd_var (i := 3) rfl (.inl rfl)) pd_nil)))) (pd_tup (pd_cons (pd_var (i := 2) rfl (.inl rfl)) (pd_cons (pd_var (i := 3) rfl (.inl rfl)) pd_nil))) (pd_tup (pd_cons (pd_tup (pd_cons pd_int pd_nil)) (pd_cons (pd_tup (pd_cons pd_int (pd_cons pd_int pd_nil))) pd_nil))))))))))))
end
def sp__law_any_balanced : WL := fun ds Q => ds = [.bag] ∧ ∀ ts bs : List Int, RowOk ts bs → Q (twoD ts bs)
theorem row211 : RowOk [2] [1, 1] := ⟨by simp, by simp, by decide, ⟨⟨by decide, by decide, by decide, by decide⟩, by decide +kernel⟩⟩
theorem row4132 : RowOk [4, 1] [3, 2] := ⟨by simp, by simp, by decide, ⟨⟨by decide, by decide, by decide, by decide⟩, by decide +kernel⟩⟩
theorem any_end (E : EndsD) (v1 s4 s5 : Sl) (xs ys : List Int) (h1 : xs.length ≤ 100) (h2 : ys.length ≤ 100) (q : ∀ ts bs : List Int, RowOk ts bs → E.rt (twoD ts bs)) :
    (wSeq (wAsg (wCall sp__law_without_shared (wCons (wVar 2) (wCons (wVar 3) wNil))) (gT 2 (gsC (gN 2) (gsC (gN 3) gsN)))) (wRet (wIfE (wTest (wCall sp__law_is_row_let (wCons (wVar 2) (wCons (wVar 3) wNil)))) (wTup (wCons (wVar 2) (wCons (wVar 3) wNil))) (wTup (wCons (wTup (wCons (wC (.int 2)) wNil)) (wCons (wTup (wCons (wC (.int 1)) (wCons (wC (.int 1)) wNil))) wNil)))))) E
      [.val .bag, v1, .val (.lst (xs.map D.int)), .val (.lst (ys.map D.int)), s4, s5] := by
  refine ⟨_, rfl, _, rfl, ⟨_, _, xs, ys, rfl, isInts_l _, isInts_l _, by omega, by omega, fun ts bs st sb dj l1 l2 => ?_⟩⟩
  simp [twoD]
  refine ⟨ts, bs, rfl, by omega, by omega, fun b hb => ?_⟩
  cases b with
  | true => exact .inr ⟨rfl, q ts bs ⟨st, sb, dj, hb rfl⟩⟩
  | false => exact .inl ⟨rfl, q [2] [1, 1] row211⟩
theorem any_swap (E : EndsD) (v1 s4 s5 : Sl) (xs ys : List Int) (h1 : xs.length ≤ 100) (h2 : ys.length ≤ 100) (q : ∀ ts bs : List Int, RowOk ts bs → E.rt (twoD ts bs)) :
    (wSeq (wIf (wTest (wOp (aEq false) (wCall sp__law_grab (wCons (wVar 0) (wCons (wC (.int 8)) wNil))) (wC (.int 0)))) (wPar2 2 3 .frz .frz (wVar 3) (wVar 2)) wNext) (wSeq (wAsg (wCall sp__law_without_shared (wCons (wVar 2) (wCons (wVar 3) wNil))) (gT 2 (gsC (gN 2) (gsC (gN 3) gsN)))) (wRet (wIfE (wTest (wCall sp__law_is_row_let (wCons (wVar 2) (wCons (wVar 3) wNil)))) (wTup (wCons (wVar 2) (wCons (wVar 3) wNil))) (wTup (wCons (wTup (wCons (wC (.int 2)) wNil)) (wCons (wTup (wCons (wC (.int 1)) (wCons (wC (.int 1)) wNil))) wNil))))))) E
      [.val .bag, v1, .val (.lst (xs.map D.int)), .val (.lst (ys.map D.int)), s4, s5] := by
  refine ⟨_, rfl, ⟨_, rfl, by decide, by decide, fun r r0 r1 => ⟨cmp_int _, cmp_int _, _, rfl, ?_⟩⟩⟩
  rw [eqv_int]
  by_cases e : r = 0
  · exact ite_t (by simpa using e) ⟨_, rfl, _, rfl, any_end E v1 s4 s5 ys xs h2 h1 q⟩
  · exact ite_f (by simpa using e) (any_end E v1 s4 s5 xs ys h1 h2 q)
theorem imp__law_any_balanced : ∀ ds Q, sp__law_any_balanced ds Q → ds.length = 1 ∧ wFn N__law_any_balanced wb__law_any_balanced ds Q := by
  rintro ds Q ⟨rfl, q⟩
  refine ⟨rfl, ?_⟩
  have hsz := size_big
  refine ⟨_, rfl, sz5.mpr trivial, ⟨_, _, rfl, rfl, by simp, by decide, fun x hx => ?_⟩⟩
  have hx : ∃ many : Int, x = .int many ∧ 0 ≤ many ∧ many ≤ 3 := by
    simp only [List.mem_cons, List.not_mem_nil, or_false] at hx
    rcases hx with rfl | rfl | rfl | rfl | rfl
    · exact ⟨1, rfl, by decide⟩
    · exact ⟨1, rfl, by decide⟩
    · exact ⟨1, rfl, by decide⟩
    · exact ⟨2, rfl, by decide⟩
    · exact ⟨3, rfl, by decide⟩
  obtain ⟨many, rfl, m0, m1⟩ := hx
  refine ⟨_, rfl, ⟨rfl, fun ts bs hs => ?_⟩⟩
  simp only [gT, gsC, gN, gsN, twoD]
  refine ⟨_, rfl, rfl, ?_⟩
  have cm : ∀ m ∈ ts ++ bs, CMulW many m := fun m hm => mulW_of (a := 10) (b := 10) (by omega) (by have := hs.1 m hm; omega)
  refine .inr ⟨_, rfl, _, rfl, ?_⟩
  refine lc_map D.int (fun m => .int (many * m)) ts (fun m hm K1 k1 => ?_) (by have := hs.2.1; omega) ?_
  · exact ⟨_, rfl, _, rfl, cm m (List.mem_append_left _ hm), k1⟩
  refine .inr ⟨_, rfl, _, rfl, ?_⟩
  refine lc_map D.int (fun m => .int (many * m)) bs (fun m hm K1 k1 => ?_) (by have := hs.2.2; omega) ?_
  · exact ⟨_, rfl, _, rfl, cm m (List.mem_append_right _ hm), k1⟩
  have e1 : ts.map (fun m => D.int (many * m)) = (ts.map (many * ·)).map D.int := by rw [List.map_map]; rfl
  have e2 : bs.map (fun m => D.int (many * m)) = (bs.map (many * ·)).map D.int := by rw [List.map_map]; rfl
  rw [e1, e2]
  refine ⟨_, rfl, ⟨_, rfl, by decide, by decide, fun r r0 r1 => ⟨cmp_int _, cmp_int _, _, rfl, ?_⟩⟩⟩
  rw [eqv_int]
  by_cases e : r = 0
  · refine ite_t (by simpa using e) ⟨_, rfl, ⟨rfl, fun ts2 bs2 hs2 => ?_⟩⟩
    refine ⟨_, rfl, _, rfl, _, 0, _, rfl, rfl, atI0 _ _, ?_⟩
    refine ⟨_, _, rfl, rfl, ?_⟩
    refine ⟨_, _, rfl, rfl, by have := hs.2.1; have := hs2.2.1; simp; omega, ?_⟩
    refine ⟨_, rfl, _, rfl, _, 1, _, rfl, rfl, atI1 _ _ _, ?_⟩
    refine ⟨_, _, rfl, rfl, ?_⟩
    refine ⟨_, _, rfl, rfl, by have := hs.2.2; have := hs2.2.2; simp; omega, ?_⟩
    rw [← List.map_append, ← List.map_append]
    exact any_swap _ _ _ _ (ts.map (many * ·) ++ ts2) (bs.map (many * ·) ++ bs2) (by have := hs.2.1; have := hs2.2.1; simp; omega) (by have := hs.2.2; have := hs2.2.2; simp; omega) q
  · exact ite_f (by simpa using e) (any_swap _ _ _ _ (ts.map (many * ·)) (bs.map (many * ·)) (by have := hs.2.1; simp; omega) (by have := hs.2.2; simp; omega) q)
theorem cal__law_any_balanced {P : Program} {w : World} {K : PySem.W.Frag} {mg : Str → Option Value} {base : Heap} {Z : Zc} (T : Txt P w K mg base Z) : Cal P w K mg base Z 4 "_law_any_balanced" sp__law_any_balanced :=
  cal_of T.d__law_any_balanced sc__law_any_balanced imp__law_any_balanced fun f cdv A outer s H E hr => b__law_any_balanced T f cdv A outer s H E hr
section
variable {P : Program} {w : World} {K : PySem.W.Frag} {mg : Str → Option Value} {base : Heap} {Z : Zc}
/-! ### _law_row_drawn -/
def N__law_row_drawn : List Str := ["_law_bag_here", "_law_tops", "_law_bottoms", "_law_way", "_law_here", "_law_at", "_law_more", "_law_near", "_law_under"]
theorem sc__law_row_drawn : FnScope N__law_row_drawn ["_law_bag_here"] (defScope (topAt 78)) := ⟨rfl, rfl, rfl, by decide +kernel, rfl, by decide +kernel, by decide +kernel⟩
def wb__law_row_drawn : WS := (wSeq (wAsg (wCall sp__law_any_balanced (wCons (wVar 0) wNil)) (gT 2 (gsC (gN 1) (gsC (gN 2) gsN)))) (wSeq (wPar2 3 4 .frz .new (wCall sp__law_grab (wCons (wVar 0) (wCons (wC (.int 7)) wNil))) (wCall aList (wCons (wOp aCatT (wVar 1) (wVar 2)) wNil))) (wSeq (wIf (wTest (wOp aGt (wVar 3) (wC (.int 1)))) (wRet (wTup (wCons (wVar 1) (wCons (wVar 2) wNil)))) wNext) (wSeq (wPar2 5 6 .frz .frz (wCall sp__law_grab (wCons (wVar 0) (wCons (wCall aLen (wCons (wOwn 4) wNil)) wNil))) (wCall sp__law_one_of (wCons (wVar 0) (wCons (wLst (wCons (wC (.int 1)) (wCons (wUn aNeg (wC (.int 1))) (wCons (wC (.int 2)) (wCons (wC (.int 5)) wNil))))) wNil)))) (wSeq (wPutL 4 (wCall aMax2 (wCons (wC (.int 1)) (wCons (wOp aAdd (wOp aIx (wOwn 4) (wVar 5)) (wVar 6)) wNil))) (wVar 5)) (wSeq (wAsg (wCall sp__law_without_shared (wCons (wSlice (wOwn 4) wNoPart (wPart (wCall aLen (wCons (wVar 1) wNil)))) (wCons (wSlice (wOwn 4) (wPart (wCall aLen (wCons (wVar 1) wNil))) wNoPart) wNil))) (gT 2 (gsC (gN 7) (gsC (gN 8) gsN)))) (wSeq (wIf (wTest (wOp (aEq false) (wVar 3) (wC (.int 0)))) (wAsg (wIfE (wTest (wOp aGt (wCall aLen (wCons (wVar 2) wNil)) (wC (.int 1)))) (wCall sp__law_without_shared (wCons (wVar 1) (wCons (wSlice (wVar 2) wNoPart (wPart (wUn aNeg (wC (.int 1))))) wNil))) (wCall sp__law_without_shared (wCons (wOp aCatT (wVar 1) (wTup (wCons (wC (.int 1)) wNil))) (wCons (wVar 2) wNil)))) (gT 2 (gsC (gN 7) (gsC (gN 8) gsN)))) wNext) (wRet (wIfE (wTest (wCall sp__law_is_row_let (wCons (wVar 7) (wCons (wVar 8) wNil)))) (wTup (wCons (wVar 7) (wCons (wVar 8) wNil))) (wTup (wCons (wTup (wCons (wC (.int 4)) (wCons (wC (.int 1)) wNil))) (wCons (wTup (wCons (wC (.int 3)) (wCons (wC (.int 2)) wNil))) wNil))))))))))))
theorem b__law_row_drawn (T : Txt P w K mg base Z) (f : Addr) (cdv : Value) (A : Around) (outer : List Env) (s : Shared) (H : Hp) (E : XK) (hr : Room 4 (A.deeper (envOfC "_law_row_drawn" (defScope (topAt 78)) s.heap.objs.size f cdv))) :
    PSs (cxOf CX0 P w K mg base N__law_row_drawn "_law_row_drawn" (defScope (topAt 78)) f cdv A outer s H E).nox (defBody (topAt 78)) (tS Z wb__law_row_drawn) :=
  (pds_cons (pd_asg (pd_call (cal__law_any_balanced T) hr (by decide) rfl (pd_cons (pd_var (i := 0) rfl (.inl rfl)) pd_nil)) (pd_gt (n := 2) T.z.k rfl (pd_gsc (pd_gn (i := 1) (is := [1, 2]) (by decide) sc__law_row_drawn.nd rfl (.inl rfl)) (pd_gsc (pd_gn (i := 2) (is := [1, 2]) (by decide) sc__law_row_drawn.nd rfl (.inl rfl)) pd_gsn))))
    (pds_cons (pd_par2 (i := 3) (j := 4) (k1 := .frz) (k2 := .new) (by decide) (by decide) rfl sc__law_row_drawn.nd rfl rfl (by decide) rfl rfl (pd_call (cal__law_grab T) hr (by decide) rfl (pd_cons (pd_var (i := 0) rfl (.inl rfl)) (pd_cons pd_int pd_nil))) (pd_callTy (cd_list T.z.k) call_list_of rfl T.h_list boot_list (pd_consV (pe_vw (pd_op op_catA (od_catT T.z.k) (pe_vw (pd_var (i := 1) rfl (.inl rfl))) (pe_vw (pd_var (i := 2) rfl (.inl rfl))))) pd_nil)) (by rfl))
    (pds_cons (pd_if (pt_cmpD op_gt od_gt (pe_vw (pd_var (i := 3) rfl (.inl rfl))) (pe_vw pd_int)) (pds_one (pd_ret (pd_tup (pd_cons (pd_var (i := 1) rfl (.inl rfl)) (pd_cons (pd_var (i := 2) rfl (.inl rfl)) pd_nil))))) pds_nil)
    (pds_cons (pd_par2 (i := 5) (j := 6) (k1 := .frz) (k2 := .frz) (by decide) (by decide) rfl sc__law_row_drawn.nd rfl rfl (by decide) rfl rfl (pd_call (cal__law_grab T) hr (by decide) rfl (pd_cons (pd_var (i := 0) rfl (.inl rfl)) (pd_cons (pd_callB (cd_len T.z.k) call_len_seq rfl T.h_len boot_len (pd_consV (pd_own (i := 4) rfl (.inl rfl)) pd_nil)) pd_nil))) (pd_call (cal__law_one_of T) hr (by decide) rfl (pd_cons (pd_var (i := 0) rfl (.inl rfl)) (pd_cons (pe_frz (pd_lst (pd_cons pd_int (pd_cons (pd_un un_neg ud_neg (pe_vw pd_int)) (pd_cons pd_int (pd_cons pd_int pd_nil)))))) pd_nil))) (by rfl))
    (pds_cons (pd_putL (j := 4) rfl (.inl rfl) (pe_vw (pd_var (i := 5) rfl (.inl rfl))) (pd_callB cd_two (call_max2 rfl) rfl T.h_max boot_max (pd_consV (pe_vw pd_int) (pd_consV (pe_vw (pd_op op_add od_add (pe_vw (pd_ix T.z.k (pd_own (i := 4) rfl (.inl rfl)) (pe_vw (pd_var (i := 5) rfl (.inl rfl))))) (pe_vw (pd_var (i := 6) rfl (.inl rfl))))) pd_nil))))
    (pds_cons (pd_asg (pd_call (cal__law_without_shared T) hr (by decide) rfl (pd_cons (pd_slice T.z.k (pd_own (i := 4) rfl (.inl rfl)) pd_noPart (pd_part (pe_vw (pd_callB (cd_len T.z.k) call_len_seq rfl T.h_len boot_len (pd_consV (pe_vw (pd_var (i := 1) rfl (.inl rfl))) pd_nil))))) (pd_cons (pd_slice T.z.k (pd_own (i := 4) rfl (.inl rfl)) (pd_part (pe_vw (pd_callB (cd_len T.z.k) call_len_seq rfl T.h_len boot_len (pd_consV (pe_vw (pd_var (i := 1) rfl (.inl rfl))) pd_nil)))) pd_noPart) pd_nil))) (pd_gt (n := 2) T.z.k rfl (pd_gsc (pd_gn (i := 7) (is := [7, 8]) (by decide) sc__law_row_drawn.nd rfl (.inl rfl)) (pd_gsc (pd_gn (i := 8) (is := [7, 8]) (by decide) sc__law_row_drawn.nd rfl (.inl rfl)) pd_gsn))))
    (pds_cons (pd_if (pt_cmpD (op_eqD hr.units) (od_eq T.z.k) (pe_vw (pd_var (i := 3) rfl (.inl rfl))) (pe_vw pd_int)) (pds_one (pd_asg (pd_ifE (pt_cmpD op_gt od_gt (pe_vw (pd_callB (cd_len T.z.k) call_len_seq rfl T.h_len boot_len (pd_consV (pe_vw (pd_var (i := 2) rfl (.inl rfl))) pd_nil))) (pe_vw pd_int)) (pd_call (cal__law_without_shared T) hr (by decide) rfl (pd_cons (pd_var (i := 1) rfl (.inl rfl)) (pd_cons (pd_slice T.z.k (pe_vw (pd_var (i := 2) rfl (.inl rfl))) pd_noPart (pd_part (pe_vw (pd_un un_neg ud_neg (pe_vw pd_int))))) pd_nil))) (pd_call (cal__law_without_shared T) hr (by decide) rfl (pd_cons (pd_op op_catA (od_catT T.z.k) (pe_vw (pd_var (i := 1) rfl (.inl rfl))) (pe_vw (pd_tup (pd_cons pd_int pd_nil)))) (pd_cons (pd_var (i := 2) rfl (.inl rfl)) pd_nil)))) (pd_gt (n := 2) T.z.k rfl (pd_gsc (pd_gn (i := 7) (is := [7, 8]) (by decide) sc__law_row_drawn.nd rfl (.inl rfl)) (pd_gsc (pd_gn (i := 8) (is := [7, 8]) (by decide) sc__law_row_drawn.nd rfl (.inl rfl)) pd_gsn))))) pds_nil)
    (pds_one (pd_ret (pd_ifE (pt_valD (pd_call (cal__law_is_row_let T) hr (by decide) rfl (pd_cons (pd_var (i := 7) rfl (.inl rfl)) (pd_cons (pd_var (i := 8) rfl (.inl rfl)) pd_nil)))) (pd_tup (pd_cons (pd_var (i := 7) rfl (.inl rfl)) (pd_cons (pd_var (i := 8) rfl (.inl rfl)) pd_nil))) (pd_tup (pd_cons (pd_tup (pd_cons pd_int (pd_cons pd_int pd_nil))) (pd_cons (pd_tup (pd_cons pd_int (pd_cons pd_int pd_nil))) pd_nil)))))))))))))
end
def sp__law_row_drawn : WL := fun ds Q => ds = [.bag] ∧ ∀ ts bs : List Int, RowOk ts bs → Q (twoD ts bs)
theorem cut_ints (is : List Int) (lo hi : Option Int) : ∃ js : List Int, cutD (is.map D.int) lo hi = js.map D.int ∧ js.length ≤ is.length := by
  unfold cutD
  rw [List.length_map]
  generalize HT.sIx is.length 0 lo = a
  generalize HT.sIx is.length is.length hi - a = b
  refine ⟨(is.drop a).take b, by rw [List.map_take, List.map_drop], ?_⟩
  rw [List.length_take, List.length_drop]; omega
theorem drawn_end (E : EndsD) (v1 v2 v3 v4 v5 v6 : Sl) (xs ys : List Int) (st : xs.Pairwise (· ≥ ·)) (sb : ys.Pairwise (· ≥ ·)) (dj : ∀ m ∈ xs, m ∉ ys) (h1 : xs.length ≤ 100) (h2 : ys.length ≤ 100) (q : ∀ ts bs : List Int, RowOk ts bs → E.rt (twoD ts bs)) :
    (wRet (wIfE (wTest (wCall sp__law_is_row_let (wCons (wVar 7) (wCons (wVar 8) wNil)))) (wTup (wCons (wVar 7) (wCons (wVar 8) wNil))) (wTup (wCons (wTup (wCons (wC (.int 4)) (wCons (wC (.int 1)) wNil))) (wCons (wTup (wCons (wC (.int 3)) (wCons (wC (.int 2)) wNil))) wNil))))) E
      [.val .bag, v1, v2, v3, v4, v5, v6, .val (.tup (xs.map D.int)), .val (.tup (ys.map D.int))] := by
  refine ⟨_, rfl, _, rfl, ⟨xs, ys, rfl, by omega, by omega, fun b hb => ⟨b, rfl, ?_⟩⟩⟩
  cases b with
  | true => exact ite_t rfl ⟨_, rfl, _, rfl, sz2.mpr trivial, q xs ys ⟨st, sb, dj, hb rfl⟩⟩
  | false => exact ite_f rfl ⟨sz2.mpr trivial, sz2.mpr trivial, sz2.mpr trivial, q [4, 1] [3, 2] row4132⟩
theorem imp__law_row_drawn : ∀ ds Q, sp__law_row_drawn ds Q → ds.length = 1 ∧ wFn N__law_row_drawn wb__law_row_drawn ds Q := by
  rintro ds Q ⟨rfl, q⟩
  refine ⟨rfl, ?_⟩
  have hsz := size_big
  refine ⟨_, rfl, ⟨rfl, fun ts bs ok => ?_⟩⟩
  have hgood := ok.2.2.2
  have hlen := hgood.1.len
  have hne := hgood.1.2.2.2
  have hp := List.length_pos_iff.mpr hne
  simp only [gT, gsC, gN, gsN, twoD]
  refine ⟨_, rfl, rfl, ?_⟩
  refine ⟨_, rfl, ⟨_, rfl, by decide, by decide, fun way w0 w1 => ?_⟩⟩
  refine ⟨_, rfl, _, rfl, _, _, rfl, rfl, by rw [List.length_append] at hlen; simp; omega, ?_⟩
  rw [star_both]
  refine ⟨_, _, rfl, rfl, ?_⟩
  refine ⟨_, rfl, _, rfl, ?_⟩
  by_cases e : 1 < way
  · exact ite_t (by simpa using e) ⟨_, rfl, _, rfl, sz2.mpr trivial, q ts bs ok⟩
  refine ite_f (by simpa using e) ?_
  refine ⟨_, rfl, _, rfl, ⟨_, _, rfl, rfl, ⟨((ts ++ bs).length : Nat), by rw [List.length_map], by omega, by omega, fun at_ a0 a1 => ?_⟩⟩⟩
  refine ⟨_, rfl, sz4.mpr trivial, ⟨_, _, rfl, rfl, by simp, by decide, fun x hx => ?_⟩⟩
  have hx : ∃ more : Int, x = .int more := by
    simp only [List.mem_cons, List.not_mem_nil, or_false] at hx
    rcases hx with rfl | rfl | rfl | rfl <;> exact ⟨_, rfl⟩
  obtain ⟨more, rfl⟩ := hx
  have hat : at_.toNat < (ts ++ bs).length := by omega
  have eat : ((ts ++ bs).map D.int)[at_.toNat]? = some (.int (ts ++ bs)[at_.toNat]) := by rw [List.getElem?_map, List.getElem?_eq_getElem hat]; rfl
  have eat2 := atI_nat _ at_.toNat eat
  rw [Int.toNat_of_nonneg a0] at eat2
  refine ⟨_, rfl, _, rfl, _, rfl, _, at_, _, rfl, rfl, eat2, _, rfl, ⟨_, _, rfl, ?_⟩⟩
  refine ⟨_, rfl, at_, at_.toNat, rfl, ?_, ?_⟩
  · unfold ixN
    rw [if_pos a0, if_pos (by rw [List.length_map]; omega)]
  generalize ((fun i j : Int => if j > i then j else i) 1 ((ts ++ bs)[at_.toNat] + more)) = val
  rw [show ((ts ++ bs).map D.int).set at_.toNat (.int val) = ((ts ++ bs).set at_.toNat val).map D.int by rw [List.map_set]]
  have hl2 : ((ts ++ bs).set at_.toNat val).length ≤ 16 := by rw [List.length_set]; exact hlen
  generalize (ts ++ bs).set at_.toNat val = here at hl2
  obtain ⟨js, ej, lj⟩ := cut_ints here none (some ((ts.map D.int).length : Nat))
  obtain ⟨ks, ek, lk⟩ := cut_ints here (some ((ts.map D.int).length : Nat)) none
  refine ⟨_, rfl, _, rfl, ⟨_, _, rfl, rfl, ⟨_, rfl, .inl ⟨_, rfl, ?_⟩⟩⟩⟩
  rw [ej]
  refine ⟨_, rfl, _, rfl, ⟨_, _, rfl, rfl, ⟨_, rfl, .inl ⟨_, rfl, ?_⟩⟩⟩⟩
  rw [ek]
  refine ⟨_, _, js, ks, rfl, isInts_l _, isInts_l _, by omega, by omega, fun ts2 bs2 st sb dj l1 l2 => ?_⟩
  refine ⟨_, rfl, rfl, ?_⟩
  have hl := hgood.1.2.1
  have hl' := hgood.1.2.2.1
  refine ⟨_, rfl, cmp_int _, cmp_int _, _, rfl, ?_⟩
  rw [eqv_int]
  by_cases e0 : way = 0
  · refine ite_t (by simpa using e0) ?_
    refine ⟨_, rfl, ⟨_, _, rfl, rfl, ⟨_, rfl, ?_⟩⟩⟩
    by_cases e1 : 1 < ((bs.map D.int).length : Int)
    · refine ite_t (by simpa using e1) ?_
      obtain ⟨ls, el, ll⟩ := cut_ints bs none (some (-1))
      refine ⟨_, rfl, _, rfl, _, rfl, .inr ⟨_, rfl, ?_⟩⟩
      rw [el]
      refine ⟨_, _, ts, ls, rfl, isInts_t _, isInts_t _, by omega, by omega, fun ts3 bs3 st3 sb3 dj3 l3 l4 => ?_⟩
      refine ⟨_, rfl, rfl, ?_⟩
      exact drawn_end { nx := fun _ => Q .non, rt := Q } _ _ _ _ _ _ ts3 bs3 st3 sb3 dj3 (by omega) (by omega) q
    · refine ite_f (by simpa using e1) ?_
      refine ⟨_, rfl, sz1.mpr trivial, _, _, rfl, rfl, by simp; omega, ?_⟩
      refine ⟨_, rfl, ⟨_, _, ts ++ [1], bs, rfl, .inr (by rw [List.map_append]; rfl), isInts_t _, by simp; omega, by omega, fun ts3 bs3 st3 sb3 dj3 l3 l4 => ?_⟩⟩
      refine ⟨_, rfl, rfl, ?_⟩
      exact drawn_end { nx := fun _ => Q .non, rt := Q } _ _ _ _ _ _ ts3 bs3 st3 sb3 dj3 (by simp at l3; omega) (by omega) q
  · refine ite_f (by simpa using e0) ?_
    exact drawn_end { nx := fun _ => Q .non, rt := Q } _ _ _ _ _ _ ts2 bs2 st sb dj (by omega) (by omega) q
theorem cal__law_row_drawn {P : Program} {w : World} {K : PySem.W.Frag} {mg : Str → Option Value} {base : Heap} {Z : Zc} (T : Txt P w K mg base Z) : Cal P w K mg base Z 5 "_law_row_drawn" sp__law_row_drawn :=
  cal_of T.d__law_row_drawn sc__law_row_drawn imp__law_row_drawn fun f cdv A outer s H E hr => b__law_row_drawn T f cdv A outer s H E hr
end DL

namespace DL
open PySem PySem.Spec PyProof.Rows L2
theorem RowOk.small {ts bs : List Int} (h : RowOk ts bs) : Small ts bs := h.2.2.2.1
section
variable {P : Program} {w : World} {K : PySem.W.Frag} {mg : Str → Option Value} {base : Heap} {Z : Zc}
/-! ### is_side -/
def N_is_side : List Str := ["value", "one"]
theorem sc_is_side : FnScope N_is_side ["value"] (defScope (topAt 32)) := ⟨rfl, rfl, rfl, by decide +kernel, rfl, by decide +kernel, by decide +kernel⟩
def wb_is_side : WS := (wRet (wAndV (wIsi "tuple" (wVar 0)) (wAndV (wOp aLe (wCall aLen (wCons (wVar 0) wNil)) (wC (.int 8))) (wCall aAll (wCons (wLc (wIT (wVar 0)) (gN 1) wYes (wCall sp_is_within (wCons (wVar 1) (wCons (wC (.int 1)) (wCons (wC (.int 60)) wNil)))) [1]) wNil)))))
theorem b_is_side (T : Txt P w K mg base Z) (f : Addr) (cdv : Value) (A : Around) (outer : List Env) (s : Shared) (H : Hp) (E : XK) (hr : Room 2 (A.deeper (envOfC "is_side" (defScope (topAt 32)) s.heap.objs.size f cdv))) :
    PSs (cxOf CX0 P w K mg base N_is_side "is_side" (defScope (topAt 32)) f cdv A outer s H E).nox (defBody (topAt 32)) (tS Z wb_is_side) :=
  (pds_one (pd_ret (pd_and (pd_isi T.z.k rfl T.h_isinstance rfl T.h_tuple boot_tuple (pd_var (i := 0) rfl (.inl rfl))) (pd_and (pd_cmp op_le od_le (pe_vw (pd_callB (cd_len T.z.k) call_len_seq rfl T.h_len boot_len (pd_consV (pe_vw (pd_var (i := 0) rfl (.inl rfl))) pd_nil))) (pe_vw (pd_globI T.c_MAX_SIDE rfl))) (pd_one (pd_callB cd_all (cr_all rfl) rfl T.h_all boot_all (pd_consV (pe_nv (pd_lc (own := [("one", 1)]) (is := [1]) rfl sc_is_side.nd (pd_it T.z.k (pd_var (i := 0) rfl (.inl rfl))) (blkOk_by (N := N_is_side) (sc := defScope (topAt 32)) (by decide +kernel)) (fun _ _ _ _ _ => (pd_gn (i := 1) (is := [1]) (by decide) sc_is_side.nd rfl (.inl rfl))) (fun _ _ _ _ _ => pd_yes) (fun _ _ _ _ _ => (pd_call (cal_is_within T) hr (by decide) rfl (pd_cons (pd_var (i := 1) rfl (.inl rfl)) (pd_cons pd_int (pd_cons (pd_globI T.c_MAX_MEMBER rfl) pd_nil))))) (by decide))) pd_nil)))))))
end
def sp_is_side : WL := fun ds Q => ∃ ms : List Int, ds = [.tup (ms.map D.int)] ∧ ms.length ≤ 8 ∧ (∀ m ∈ ms, 1 ≤ m ∧ m ≤ 60) ∧ Q (.bl true)
theorem all_true {α : Type} : ∀ xs : List α, (xs.map fun _ => true).all id = true
  | [] => rfl
  | _ :: r => by rw [List.map_cons, List.all_cons, all_true r]; rfl
theorem imp_is_side : ∀ ds Q, sp_is_side ds Q → ds.length = 1 ∧ wFn N_is_side wb_is_side ds Q := by
  rintro ds Q ⟨ms, rfl, hl, hm, q⟩
  refine ⟨rfl, ?_⟩
  have hsz := size_big
  refine ⟨_, rfl, true, show ("tuple" : String) ≠ "?" by decide, rfl, ⟨true, rfl, ?_⟩⟩
  refine ⟨_, rfl, ⟨_, _, rfl, rfl, ⟨true, by simp; omega, ?_⟩⟩⟩
  refine ⟨_, rfl, _, rfl, ?_⟩
  refine lc_map D.int (fun _ => .bl true) ms (fun m hm' K1 k1 => ?_) (by omega) ?_
  · have := hm m hm'
    refine ⟨_, rfl, ⟨m, 1, 60, rfl, ?_⟩⟩
    rw [decide_eq_true (by omega)]
    exact k1
  · refine ⟨ms.map fun _ => true, by rw [List.map_map]; rfl, ?_⟩
    show Q (D.bl ((ms.map fun _ => true).all id))
    rw [all_true]
    exact q
theorem cal_is_side {P : Program} {w : World} {K : PySem.W.Frag} {mg : Str → Option Value} {base : Heap} {Z : Zc} (T : Txt P w K mg base Z) : Cal P w K mg base Z 3 "is_side" sp_is_side :=
  cal_of T.d_is_side sc_is_side imp_is_side fun f cdv A outer s H E hr => b_is_side T f cdv A outer s H E hr
section
variable {P : Program} {w : World} {K : PySem.W.Frag} {mg : Str → Option Value} {base : Heap} {Z : Zc}
/-! ### tells_row -/
def N_tells_row : List Str := ["tops", "bottoms", "both"]
theorem sc_tells_row : FnScope N_tells_row ["tops", "bottoms"] (defScope (topAt 31)) := ⟨rfl, rfl, rfl, by decide +kernel, rfl, by decide +kernel, by decide +kernel⟩
def wb_tells_row : WS := (wSeq (wSet 2 (wLst (wStar (wVar 0) (wStar (wVar 1) wNil)))) (wSeq (wIf (wOr (wTest (wOp (aEq false) (wVar 2) (wLst wNil))) (wOr (wTest (wOp aGt (wCall aLen (wCons (wVar 0) wNil)) (wC (.int 8)))) (wOr (wTest (wOp aGt (wCall aLen (wCons (wVar 1) wNil)) (wC (.int 8)))) (wTest (wOp aGt (wCall aMax (wCons (wVar 2) wNil)) (wC (.int 60))))))) (wRet (wC (.bl false))) wNext) (wRet (wOp aLe (wCall sp_multiple_of (wCons (wVar 2) wNil)) (wC (.int 2520))))))
theorem b_tells_row (T : Txt P w K mg base Z) (f : Addr) (cdv : Value) (A : Around) (outer : List Env) (s : Shared) (H : Hp) (E : XK) (hr : Room 1 (A.deeper (envOfC "tells_row" (defScope (topAt 31)) s.heap.objs.size f cdv))) :
    PSs (cxOf CX0 P w K mg base N_tells_row "tells_row" (defScope (topAt 31)) f cdv A outer s H E).nox (defBody (topAt 31)) (tS Z wb_tells_row) :=
  (pds_cons (pd_set (i := 2) sc_tells_row.nd rfl (.inl rfl) (pe_frz (pd_lst (pd_star T.z.k (pd_var (i := 0) rfl (.inl rfl)) (pd_star T.z.k (pd_var (i := 1) rfl (.inl rfl)) pd_nil)))))
    (pds_cons (pd_if (PW.pt (pw_orD (pt_cmpD (op_eqD hr.units) (od_eq T.z.k) (pe_vw (pd_var (i := 2) rfl (.inl rfl))) (pe_nv (pd_lst pd_nil))) (pw_orD (pt_cmpD op_gt od_gt (pe_vw (pd_callB (cd_len T.z.k) call_len_seq rfl T.h_len boot_len (pd_consV (pe_vw (pd_var (i := 0) rfl (.inl rfl))) pd_nil))) (pe_vw (pd_globI T.c_MAX_SIDE rfl))) (pw_orD (pt_cmpD op_gt od_gt (pe_vw (pd_callB (cd_len T.z.k) call_len_seq rfl T.h_len boot_len (pd_consV (pe_vw (pd_var (i := 1) rfl (.inl rfl))) pd_nil))) (pe_vw (pd_globI T.c_MAX_SIDE rfl))) (pw_or1D (pt_cmpD op_gt od_gt (pe_vw (pd_callB (cd_max T.z.k) (max_any rfl (hu_of hr)) rfl T.h_max boot_max (pd_consV (pe_vw (pd_var (i := 2) rfl (.inl rfl))) pd_nil))) (pe_vw (pd_globI T.c_MAX_MEMBER rfl)))))))) (pds_one (pd_ret pd_bl)) pds_nil)
    (pds_one (pd_ret (pd_cmp op_le od_le (pe_vw (pd_call (cal_multiple_of T) hr (by decide) rfl (pd_cons (pd_var (i := 2) rfl (.inl rfl)) pd_nil))) (pe_vw (pd_globI T.c_MAX_COMMON rfl)))))))
end
def sp_tells_row : WL := fun ds Q => ∃ (d1 d2 : D) (ts bs : List Int), ds = [d1, d2] ∧ isInts d1 ts ∧ isInts d2 bs ∧ Good ts bs ∧ Q (.bl true)
theorem imp_tells_row : ∀ ds Q, sp_tells_row ds Q → ds.length = 2 ∧ wFn N_tells_row wb_tells_row ds Q := by
  rintro ds Q ⟨d1, d2, ts, bs, rfl, i1, i2, h, q⟩
  refine ⟨rfl, ?_⟩
  have hsz := size_big
  have hl := h.1.len
  rw [List.length_append] at hl
  refine ⟨_, rfl, _, ints_of d1 ts i1, _, rfl, _, ints_of d2 bs i2, by simp; omega, ?_⟩
  rw [List.append_nil, star_both]
  refine ⟨_, rfl, by decide, cmp_lstI _, cmp_lstI [], _, rfl, ?_⟩
  rw [show D.lst [] = D.lst (List.map D.int []) from rfl, eqv_lstI]
  refine ite_f (by rw [decide_eq_false h.1.2.2.2]; rfl) ?_
  refine ⟨_, rfl, ⟨_, _, rfl, ints_of d1 ts i1, ⟨_, rfl, ?_⟩⟩⟩
  refine ite_f (by have := h.1.2.1; simp; omega) ?_
  refine ⟨_, rfl, ⟨_, _, rfl, ints_of d2 bs i2, ⟨_, rfl, ?_⟩⟩⟩
  refine ite_f (by have := h.1.2.2.1; simp; omega) ?_
  have h60 := (h.1.1 _ (maxL_mem h.1.2.2.2)).2
  refine ⟨_, rfl, ⟨_, _, rfl, isInts_l _, h.1.2.2.2, _, rfl, ?_⟩⟩
  refine ite_f (by simpa using h60) ?_
  refine ⟨_, rfl, ⟨_, ts ++ bs, rfl, isInts_l _, by rw [List.length_append]; omega, fun n hn => by have := h.1.1 n hn; omega, ?_⟩⟩
  show Q (.bl (decide (multI (ts ++ bs) ≤ 2520)))
  rw [decide_eq_true h.2]
  exact q
theorem cal_tells_row {P : Program} {w : World} {K : PySem.W.Frag} {mg : Str → Option Value} {base : Heap} {Z : Zc} (T : Txt P w K mg base Z) : Cal P w K mg base Z 2 "tells_row" sp_tells_row :=
  cal_of T.d_tells_row sc_tells_row imp_tells_row fun f cdv A outer s H E hr => b_tells_row T f cdv A outer s H E hr
section
variable {P : Program} {w : World} {K : PySem.W.Frag} {mg : Str → Option Value} {base : Heap} {Z : Zc}
/-! ### counted -/
def N_counted : List Str := ["tops", "bottoms", "member"]
theorem sc_counted : FnScope N_counted ["tops", "bottoms"] (defScope (topAt 33)) := ⟨rfl, rfl, rfl, by decide +kernel, rfl, by decide +kernel, by decide +kernel⟩
def wb_counted : WS := (wRet (wDc (wIL (wCall aSorted (wCons (wLst (wStar (wVar 0) (wStar (wVar 1) wNil))) wNil))) (gN 2) wYes (wVar 2) (wOp aSub (wCall sp_how_often (wCons (wVar 0) (wCons (wVar 2) wNil))) (wCall sp_how_often (wCons (wVar 1) (wCons (wVar 2) wNil)))) [2]))
theorem b_counted (T : Txt P w K mg base Z) (f : Addr) (cdv : Value) (A : Around) (outer : List Env) (s : Shared) (H : Hp) (E : XK) (hr : Room 1 (A.deeper (envOfC "counted" (defScope (topAt 33)) s.heap.objs.size f cdv))) :
    PSs (cxOf CX0 P w K mg base N_counted "counted" (defScope (topAt 33)) f cdv A outer s H E).nox (defBody (topAt 33)) (tS Z wb_counted) :=
  (pds_one (pd_ret (pe_frz (pd_dc (own := [("member", 2)]) (is := [2]) rfl sc_counted.nd (pd_il (pe_frz (pd_callB cd_sorted cr_sortedI rfl T.h_sorted boot_sorted (pd_consV (pe_nv (pd_lst (pd_star T.z.k (pd_var (i := 0) rfl (.inr (.inl rfl))) (pd_star T.z.k (pd_var (i := 1) rfl (.inr (.inl rfl))) pd_nil)))) pd_nil)))) (blkOk_by (N := N_counted) (sc := defScope (topAt 33)) (by decide +kernel)) (fun _ _ _ _ _ => (pd_gn (i := 2) (is := [2]) (by decide) sc_counted.nd rfl (.inl rfl))) (fun _ _ _ _ _ => pd_yes) (fun _ _ _ _ _ => (pd_var (i := 2) rfl (.inl rfl))) (fun _ _ _ _ _ => (pd_op op_sub od_sub (pe_vw (pd_call (cal_how_often T) hr (by decide) rfl (pd_cons (pd_var (i := 0) rfl (.inr (.inl rfl))) (pd_cons (pd_var (i := 2) rfl (.inl rfl)) pd_nil)))) (pe_vw (pd_call (cal_how_often T) hr (by decide) rfl (pd_cons (pd_var (i := 1) rfl (.inr (.inl rfl))) (pd_cons (pd_var (i := 2) rfl (.inl rfl)) pd_nil)))))) (by decide)))))
end
def sp_counted : WL := fun ds Q => ∃ (d1 d2 : D) (ts bs : List Int), ds = [d1, d2] ∧ isInts d1 ts ∧ isInts d2 bs ∧ ts.length ≤ 8 ∧ bs.length ≤ 8 ∧ ∀ kvs, kvs.length ≤ 16 → Q (.dic kvs)
/-- a dict comprehension of ints, roughly -/
theorem put_len (kvs : List (Int × Int)) (k v : Int) : (putI kvs k v).length ≤ kvs.length + 1 := by
  unfold putI
  split
  · rw [List.length_map]; omega
  · rw [List.length_append]; simp
theorem dcI {wv : WE} {env : En} {K : List (Int × Int) → Prop} (hv : ∀ (m : Int) (R : D → Prop), (∀ j : Int, R (.int j)) → wv (env.set 2 (.val (.int m))) R) (hl : 2 < env.length) : ∀ (ns : List Int) (acc : List (Int × Int)), acc.length + ns.length ≤ 1000 →
    (∀ kvs, kvs.length ≤ acc.length + ns.length → K kvs) → dcD (gN 2) wYes (wVar 2) wv env K (ns.map D.int) acc
  | [], acc, _, q => q acc (by simp)
  | n :: ns, acc, h, q => by
    have h : acc.length + (ns.length + 1) ≤ 1000 := h
    have hp := put_len acc n
    refine ⟨_, List.getElem?_set_self hl, hv n _ fun j => ⟨n, j, rfl, rfl, by have := size_big; omega, ?_⟩⟩
    have := hp j
    refine dcI hv hl ns _ (by omega) fun kvs hk => q kvs ?_
    rw [List.length_cons]; omega
theorem imp_counted : ∀ ds Q, sp_counted ds Q → ds.length = 2 ∧ wFn N_counted wb_counted ds Q := by
  rintro ds Q ⟨d1, d2, ts, bs, rfl, i1, i2, h1, h2, q⟩
  refine ⟨rfl, ?_⟩
  have hsz := size_big
  refine ⟨_, rfl, _, ints_of d1 ts i1, _, rfl, _, ints_of d2 bs i2, by simp; omega, ?_⟩
  rw [List.append_nil, star_both]
  refine ⟨ts ++ bs, rfl, fun ns hp hs => ⟨_, rfl, ?_⟩⟩
  have hl := hp.length_eq
  rw [List.length_append] at hl
  refine dcI (fun m R hR => ?_) ?_ ns [] (by simp; omega) fun kvs hk => q kvs (by simp at hk; omega)
  rotate_left
  · show 2 < 3
    decide
  exact ⟨_, rfl, _, rfl, ⟨d1, ts, m, rfl, i1, by omega, ⟨_, rfl, _, rfl, ⟨d2, bs, m, rfl, i2, by omega, hR _⟩⟩⟩⟩
theorem cal_counted {P : Program} {w : World} {K : PySem.W.Frag} {mg : Str → Option Value} {base : Heap} {Z : Zc} (T : Txt P w K mg base Z) : Cal P w K mg base Z 2 "counted" sp_counted :=
  cal_of T.d_counted sc_counted imp_counted fun f cdv A outer s H E hr => b_counted T f cdv A outer s H E hr
section
variable {P : Program} {w : World} {K : PySem.W.Frag} {mg : Str → Option Value} {base : Heap} {Z : Zc}
/-! ### left_of -/
def N_left_of : List Str := ["tops", "bottoms", "both", "unlike", "place", "member", "more", "above", "many", "turn"]
theorem sc_left_of : FnScope N_left_of ["tops", "bottoms"] (defScope (topAt 30)) := ⟨rfl, rfl, rfl, by decide +kernel, rfl, by decide +kernel, by decide +kernel⟩
def wb_left_of : WS := (wSeq (wSet 2 (wSortRev (wLst (wStar (wVar 0) (wStar (wVar 1) wNil))))) (wSeq (wSet 3 (wLc (wIEnum (wVar 2)) (gT 2 (gsC (gN 4) (gsC (gN 5) gsN))) (wOr (wTest (wOp (aEq false) (wVar 4) (wC (.int 0)))) (wTest (wOp (aEq true) (wOp aIx (wVar 2) (wOp aSub (wVar 4) (wC (.int 1)))) (wVar 5)))) (wVar 5) [4, 5])) (wSeq (wSet 6 (wLc (wIL (wVar 3)) (gN 5) wYes (wTup (wCons (wVar 5) (wCons (wOp aSub (wCall sp_how_often (wCons (wVar 0) (wCons (wVar 5) wNil))) (wCall sp_how_often (wCons (wVar 1) (wCons (wVar 5) wNil)))) wNil))) [5])) (wSeq (wSet 7 (wLc2 (wIL (wVar 6)) (gT 2 (gsC (gN 5) (gsC (gN 8) gsN))) wYes (wIR1 (wCons (wVar 8) wNil)) (gN 9) wYes (wVar 5) [5, 8, 9] [9])) (wRet (wTup (wCons (wVar 7) (wCons (wLc2 (wIL (wVar 6)) (gT 2 (gsC (gN 5) (gsC (gN 8) gsN))) wYes (wIR1 (wCons (wUn aNeg (wVar 8)) wNil)) (gN 9) wYes (wVar 5) [5, 8, 9] [9]) wNil))))))))
theorem b_left_of (T : Txt P w K mg base Z) (f : Addr) (cdv : Value) (A : Around) (outer : List Env) (s : Shared) (H : Hp) (E : XK) (hr : Room 1 (A.deeper (envOfC "left_of" (defScope (topAt 30)) s.heap.objs.size f cdv))) :
    PSs (cxOf CX0 P w K mg base N_left_of "left_of" (defScope (topAt 30)) f cdv A outer s H E).nox (defBody (topAt 30)) (tS Z wb_left_of) :=
  (pds_cons (pd_set (i := 2) sc_left_of.nd rfl (.inr rfl) (pe_frz (pd_sortRev rfl T.h_sorted (pe_nv (pd_lst (pd_star T.z.k (pd_var (i := 0) rfl (.inr (.inl rfl))) (pd_star T.z.k (pd_var (i := 1) rfl (.inr (.inl rfl))) pd_nil)))))))
    (pds_cons (pd_setLc (i := 3) (own := [("place", 4), ("member", 5)]) (is := [4, 5]) rfl sc_left_of.nd rfl rfl (sw_true rfl rfl rfl (by decide +kernel)) (pd_ienum rfl T.h_enumerate (pd_var (i := 2) rfl (.inr (.inl rfl)))) (blkOk_by (N := N_left_of) (sc := defScope (topAt 30)) (by decide +kernel)) (fun _ _ _ _ _ => (pd_gt (n := 2) T.z.k rfl (pd_gsc (pd_gn (i := 4) (is := [4, 5]) (by decide) sc_left_of.nd rfl (.inl rfl)) (pd_gsc (pd_gn (i := 5) (is := [4, 5]) (by decide) sc_left_of.nd rfl (.inl rfl)) pd_gsn)))) (fun _ _ _ _ _ => (pd_if1 (PW.pt (pw_orD (pt_cmpD (op_eqD hr.units) (od_eq T.z.k) (pe_vw (pd_var (i := 4) rfl (.inl rfl))) (pe_vw pd_int)) (pw_or1D (pt_cmpD (op_neD hr.units) (od_ne T.z.k) (pe_vw (pd_ix T.z.k (pe_vw (pd_var (i := 2) rfl (.inr (.inl rfl)))) (pe_vw (pd_op op_sub od_sub (pe_vw (pd_var (i := 4) rfl (.inl rfl))) (pe_vw pd_int))))) (pe_vw (pd_var (i := 5) rfl (.inl rfl))))))))) (fun _ _ _ _ _ => (pd_var (i := 5) rfl (.inl rfl))) (by decide))
    (pds_cons (pd_setLc (i := 6) (own := [("member", 5)]) (is := [5]) rfl sc_left_of.nd rfl rfl (sw_true rfl rfl rfl (by decide +kernel)) (pd_il (pd_var (i := 3) rfl (.inl rfl))) (blkOk_by (N := N_left_of) (sc := defScope (topAt 30)) (by decide +kernel)) (fun _ _ _ _ _ => (pd_gn (i := 5) (is := [5]) (by decide) sc_left_of.nd rfl (.inl rfl))) (fun _ _ _ _ _ => pd_yes) (fun _ _ _ _ _ => (pd_tup (pd_cons (pd_var (i := 5) rfl (.inl rfl)) (pd_cons (pd_op op_sub od_sub (pe_vw (pd_call (cal_how_often T) hr (by decide) rfl (pd_cons (pd_var (i := 0) rfl (.inr (.inl rfl))) (pd_cons (pd_var (i := 5) rfl (.inl rfl)) pd_nil)))) (pe_vw (pd_call (cal_how_often T) hr (by decide) rfl (pd_cons (pd_var (i := 1) rfl (.inr (.inl rfl))) (pd_cons (pd_var (i := 5) rfl (.inl rfl)) pd_nil))))) pd_nil)))) (by decide))
    (pds_cons (pd_setLc2 (i := 7) (own := [("member", 5), ("many", 8), ("turn", 9)]) (vs1 := [9]) (is := [5, 8]) (is1 := [9]) rfl sc_left_of.nd rfl rfl (sw_true rfl rfl rfl (by decide +kernel)) (pd_il (pd_var (i := 6) rfl (.inl rfl))) (blkOk_by (N := N_left_of) (sc := defScope (topAt 30)) (by decide +kernel)) (by decide) (fun _ _ _ _ _ => (pd_gt (n := 2) T.z.k rfl (pd_gsc (pd_gn (i := 5) (is := [5, 8]) (by decide) sc_left_of.nd rfl (.inl rfl)) (pd_gsc (pd_gn (i := 8) (is := [5, 8]) (by decide) sc_left_of.nd rfl (.inl rfl)) pd_gsn)))) (fun _ _ _ _ _ => pd_yes) (fun _ _ _ _ _ => (pd_ir1 rfl T.h_range (pd_consV (pe_vw (pd_var (i := 8) rfl (.inl rfl))) pd_nil))) (fun _ _ _ _ _ => (pd_gn (i := 9) (is := [9]) (by decide) sc_left_of.nd rfl (.inl rfl))) (fun _ _ _ _ _ => pd_yes) (fun _ _ _ _ _ => (pd_var (i := 5) rfl (.inl rfl))) (by decide) (by decide))
    (pds_one (pd_ret (pd_tup (pd_cons (pd_var (i := 7) rfl (.inl rfl)) (pd_cons (pe_frz (pd_lc2 (own := [("member", 5), ("many", 8), ("turn", 9)]) (vs1 := [9]) (is := [5, 8]) (is1 := [9]) rfl sc_left_of.nd (pd_il (pd_var (i := 6) rfl (.inl rfl))) (blkOk_by (N := N_left_of) (sc := defScope (topAt 30)) (by decide +kernel)) (by decide) (fun _ _ _ _ _ => (pd_gt (n := 2) T.z.k rfl (pd_gsc (pd_gn (i := 5) (is := [5, 8]) (by decide) sc_left_of.nd rfl (.inl rfl)) (pd_gsc (pd_gn (i := 8) (is := [5, 8]) (by decide) sc_left_of.nd rfl (.inl rfl)) pd_gsn)))) (fun _ _ _ _ _ => pd_yes) (fun _ _ _ _ _ => (pd_ir1 rfl T.h_range (pd_consV (pe_vw (pd_un un_neg ud_neg (pe_vw (pd_var (i := 8) rfl (.inl rfl))))) pd_nil))) (fun _ _ _ _ _ => (pd_gn (i := 9) (is := [9]) (by decide) sc_left_of.nd rfl (.inl rfl))) (fun _ _ _ _ _ => pd_yes) (fun _ _ _ _ _ => (pd_var (i := 5) rfl (.inl rfl))) (by decide) (by decide))) pd_nil)))))))))
end
def goU : Option Int → List Int → List Int
  | _, [] => []
  | p, m :: r => if p = some m then goU (some m) r else m :: goU (some m) r
theorem goU_spec : ∀ (xs : List Int) (p : Int), (p :: xs).Pairwise (· ≥ ·) → (p :: goU (some p) xs).Pairwise (· > ·) ∧ ∀ m, m ∈ p :: goU (some p) xs ↔ m ∈ p :: xs
  | [], p, _ => by unfold goU; simp
  | x :: xs, p, h => by
    obtain ⟨h1, h2⟩ := List.pairwise_cons.mp h
    obtain ⟨i1, i2⟩ := goU_spec xs x h2
    unfold goU
    by_cases e : p = x
    · subst e
      rw [if_pos rfl]
      refine ⟨i1, fun m => ?_⟩
      rw [i2]; simp
    · rw [if_neg (by simpa using e)]
      have hx := h1 x List.mem_cons_self
      refine ⟨List.pairwise_cons.mpr ⟨fun m hm => ?_, i1⟩, fun m => ?_⟩
      · have hm := (i2 m).mp hm
        have := h1 m hm
        rcases List.mem_cons.mp hm with rfl | hm
        · omega
        · have := (List.pairwise_cons.mp h2).1 m hm
          omega
      · rw [List.mem_cons, i2]; simp
theorem goU_none {xs : List Int} (h : xs.Pairwise (· ≥ ·)) : (goU none xs).Pairwise (· > ·) ∧ ∀ m, m ∈ goU none xs ↔ m ∈ xs := by
  cases xs with
  | nil => unfold goU; simp
  | cons x xs => 
    unfold goU
    rw [if_neg (by simp)]
    exact goU_spec xs x h
/-- sorted by size, with the same counts: the same -/
theorem sorted_same : ∀ {xs ys : List Int}, xs.Pairwise (· ≥ ·) → ys.Pairwise (· ≥ ·) → (∀ m, xs.count m = ys.count m) → xs = ys
  | [], [], _, _, _ => rfl
  | [], y :: ys, _, _, h => by have := h y; simp at this
  | x :: xs, [], _, _, h => by have := h x; simp at this
  | x :: xs, y :: ys, h1, h2, h => by
    have e : x = y := by
      have hx : x ∈ y :: ys := List.count_pos_iff.mp (by rw [← h x]; simp)
      have hy : y ∈ x :: xs := List.count_pos_iff.mp (by rw [h y]; simp)
      have a : x ≤ y := by
        rcases List.mem_cons.mp hx with e | hx
        · omega
        · exact (List.pairwise_cons.mp h2).1 x hx
      have b : y ≤ x := by
        rcases List.mem_cons.mp hy with e | hy
        · omega
        · exact (List.pairwise_cons.mp h1).1 y hy
      omega
    subst e
    rw [sorted_same (List.pairwise_cons.mp h1).2 (List.pairwise_cons.mp h2).2 fun m => by
      have := h m
      rw [List.count_cons, List.count_cons] at this
      omega]
def repl (f : Int → Int) (ms : List Int) : List Int := ms.flatMap fun m => List.replicate (f m).toNat m
theorem repl_sorted (f : Int → Int) : ∀ {ms : List Int}, ms.Pairwise (· > ·) → (repl f ms).Pairwise (· ≥ ·)
  | [], _ => by simp [repl]
  | m :: ms, h => by
    obtain ⟨h1, h2⟩ := List.pairwise_cons.mp h
    have ih := repl_sorted f h2
    unfold repl at ih ⊢
    rw [List.flatMap_cons, List.pairwise_append]
    refine ⟨List.pairwise_replicate.mpr (.inr (by omega)), ih, fun a ha b hb => ?_⟩
    obtain ⟨c, hc, hb⟩ := List.mem_flatMap.mp hb
    have e1 := (List.mem_replicate.mp ha).2
    have e2 := (List.mem_replicate.mp hb).2
    have := h1 c hc
    omega
theorem repl_count (f : Int → Int) (m : Int) : ∀ {ms : List Int}, ms.Pairwise (· > ·) → (repl f ms).count m = if m ∈ ms then (f m).toNat else 0
  | [], _ => by simp [repl]
  | x :: ms, h => by
    obtain ⟨h1, h2⟩ := List.pairwise_cons.mp h
    have ih := repl_count f m h2
    unfold repl at ih ⊢
    rw [List.flatMap_cons, List.count_append, ih, List.count_replicate]
    by_cases e : x = m
    · subst e
      have hn : x ∉ ms := fun z => by have := h1 x z; omega
      rw [if_pos (by simp), if_neg hn, if_pos List.mem_cons_self]; rfl
    · rw [if_neg (by simpa using e), Nat.zero_add]
      by_cases hm : m ∈ ms
      · rw [if_pos hm, if_pos (List.mem_cons_of_mem _ hm)]
      · rw [if_neg hm, if_neg (by
          intro z
          rcases List.mem_cons.mp z with rfl | z
          · exact e rfl
          · exact hm z)]
/-- what is left of a row is the row -/
theorem left_same {ts bs both : List Int} (st : ts.Pairwise (· ≥ ·)) (dj : ∀ m ∈ ts, m ∉ bs) (hb : both.Pairwise (· ≥ ·)) (hm : ∀ m, m ∈ both ↔ m ∈ ts ∨ m ∈ bs) : repl (fun m => (ts.count m : Int) - bs.count m) (goU none both) = ts := by
  obtain ⟨g1, g2⟩ := goU_none hb
  refine sorted_same (repl_sorted _ g1) st fun m => ?_
  rw [repl_count _ m g1]
  by_cases h : m ∈ ts
  · rw [if_pos ((g2 m).mpr ((hm m).mpr (.inl h))), List.count_eq_zero_of_not_mem (dj m h)]
    omega
  · rw [List.count_eq_zero_of_not_mem h]
    split <;> omega
def sp_left_of : WL := fun ds Q => ∃ ts bs, ds = [.tup (ts.map D.int), .tup (bs.map D.int)] ∧ RowOk ts bs ∧ Q (.tup [.lst (ts.map D.int), .lst (bs.map D.int)])
theorem uniq_lc {env : En} {K : List D → Prop} {all : List Int} (h2 : env[2]? = some (.val (.lst (all.map D.int)))) (hl : env.length = 10) : ∀ (suf pre : List Int) (acc : List D), pre ++ suf = all → acc.length + suf.length ≤ 1000 → K (acc ++ (goU pre.getLast? suf).map D.int) →
    lcD (gT 2 (gsC (gN 4) (gsC (gN 5) gsN))) (wOr (wTest (wOp (aEq false) (wVar 4) (wC (.int 0)))) (wTest (wOp (aEq true) (wOp aIx (wVar 2) (wOp aSub (wVar 4) (wC (.int 1)))) (wVar 5)))) (wVar 5) env K (enumD pre.length (suf.map D.int)) acc
  | [], pre, acc, _, _, k => by simpa [goU, enumD] using k
  | m :: suf, pre, acc, e, hs, k => by
    have hs : acc.length + (suf.length + 1) ≤ 1000 := hs
    have hsz := size_big
    have e4 : ((env.set 4 (.val (.int pre.length))).set 5 (.val (.int m)))[4]? = some (.val (.int pre.length)) := by rw [List.getElem?_set_ne (by decide), List.getElem?_set_self (by omega)]
    have e2 : ((env.set 4 (.val (.int pre.length))).set 5 (.val (.int m)))[2]? = some (.val (.lst (all.map D.int))) := by rw [List.getElem?_set_ne (by decide), List.getElem?_set_ne (by decide)]; exact h2
    have e5 : ((env.set 4 (.val (.int pre.length))).set 5 (.val (.int m)))[5]? = some (.val (.int m)) := List.getElem?_set_self (by rw [List.length_set]; omega)
    have key : ∀ b : Bool, (b = true ↔ pre.getLast? ≠ some m) → (if b = true then wVar 5 ((env.set 4 (.val (.int pre.length))).set 5 (.val (.int m))) fun x => acc.length < sizeLine ∧ lcD (gT 2 (gsC (gN 4) (gsC (gN 5) gsN))) (wOr (wTest (wOp (aEq false) (wVar 4) (wC (.int 0)))) (wTest (wOp (aEq true) (wOp aIx (wVar 2) (wOp aSub (wVar 4) (wC (.int 1)))) (wVar 5)))) (wVar 5) env K (enumD (pre.length + 1) (suf.map D.int)) (acc ++ [x])
        else lcD (gT 2 (gsC (gN 4) (gsC (gN 5) gsN))) (wOr (wTest (wOp (aEq false) (wVar 4) (wC (.int 0)))) (wTest (wOp (aEq true) (wOp aIx (wVar 2) (wOp aSub (wVar 4) (wC (.int 1)))) (wVar 5)))) (wVar 5) env K (enumD (pre.length + 1) (suf.map D.int)) acc) := fun b hb => by
      unfold goU at k
      have el : pre.length + 1 = (pre ++ [m]).length := by simp
      have eg : (pre ++ [m]).getLast? = some m := by simp
      cases b with
      | true =>
        refine ⟨_, e5, by omega, ?_⟩
        rw [if_neg (hb.mp rfl)] at k
        rw [el]
        refine uniq_lc h2 hl suf (pre ++ [m]) _ (by rw [← e]; simp) (by rw [List.length_append, List.length_singleton]; omega) ?_
        rw [eg, List.append_assoc]; exact k
      | false =>
        refine ite_f rfl ?_
        have : pre.getLast? = some m := by
          by_cases z : pre.getLast? = some m
          · exact z
          · have := hb.mpr z; cases this
        rw [if_pos this] at k
        rw [el]
        refine uniq_lc h2 hl suf (pre ++ [m]) _ (by rw [← e]; simp) (by omega) ?_
        rw [eg]; exact k
    refine ⟨_, rfl, rfl, ?_⟩
    refine ⟨_, e4, cmp_int _, cmp_int _, _, rfl, ?_⟩
    rw [eqv_int]
    cases hp : pre.getLast? with
    | none =>
      have hpe : pre = [] := List.getLast?_eq_none_iff.mp hp
      refine ite_t (by rw [hpe]; rfl) (key true ?_)
      rw [hp]; simp
    | some w =>
      have hpe : pre ≠ [] := by intro z; rw [z] at hp; cases hp
      have hpl := List.length_pos_iff.mpr hpe
      refine ite_f (by simp; omega) ?_
      have hw : (all.map D.int)[pre.length - 1]? = some (.int w) := by
        rw [List.getElem?_map, ← e, List.getElem?_append_left (by omega), ← List.getLast?_eq_getElem?, hp]; rfl
      have hw2 := atI_nat _ _ hw
      rw [show ((pre.length - 1 : Nat) : Int) = (pre.length : Int) - 1 by omega] at hw2
      refine ⟨_, e2, _, e4, _, _, _, rfl, rfl, hw2, _, e5, cmp_int _, cmp_int _, _, rfl, ?_⟩
      rw [eqv_int]
      refine key _ ?_
      rw [hp]; simp
theorem lc_push {env : En} {K : List D → Prop} {m : Int} (h5 : env[5]? = some (.val (.int m))) : ∀ (n : Nat) (j : Int) (acc : List D), acc.length + n ≤ 100000 → K (acc ++ (List.replicate n m).map D.int) → lcD (gN 9) wYes (wVar 5) env K (rngD j n) acc
  | 0, j, acc, _, k => by simpa [rngD] using k
  | n + 1, j, acc, hl, k => by
    have hsz := size_big
    rw [rngD_succ]
    refine ⟨_, by rw [List.getElem?_set_ne (by decide)]; exact h5, by omega, ?_⟩
    refine lc_push h5 n (j + 1) _ (by rw [List.length_append, List.length_singleton]; omega) ?_
    rw [List.append_assoc]
    rw [List.replicate_succ, List.map_cons] at k
    exact k
theorem lc2_push {we8 : WE} {env : En} {K : List D → Prop} (h g : Int → Int) (hwe : ∀ (m : Int) (P : D → Prop), P (.int (h (g m))) → we8 ((env.set 5 (.val (.int m))).set 8 (.val (.int (g m)))) P) (hel : env.length = 10) : ∀ (ms : List Int) (acc : List D), (∀ m ∈ ms, h (g m) ≤ 1000) → (∀ m ∈ ms, -1000 ≤ h (g m)) → acc.length + 1000 * ms.length ≤ 100000 → K (acc ++ (repl (fun m => h (g m)) ms).map D.int) →
    lcD2 (gT 2 (gsC (gN 5) (gsC (gN 8) gsN))) wYes (wIR1 (wCons we8 wNil)) (gN 9) wYes (wVar 5) [9] env K (ms.map fun m => D.tup [.int m, .int (g m)]) acc
  | [], acc, _, _, _, k => by simpa [repl] using k
  | m :: ms, acc, h1, h2, hl, k => by
    have hl : acc.length + 1000 * (ms.length + 1) ≤ 100000 := hl
    have b1 := h1 m List.mem_cons_self
    have b2 := h2 m List.mem_cons_self
    refine ⟨_, rfl, rfl, ?_⟩
    refine hwe m _ ?_
    refine ⟨by omega, ?_⟩
    refine lc_push (m := m) ?_ _ _ _ (by omega) ?_
    · show (((env.set 5 (.val (.int m))).set 8 (.val (.int (g m)))).set 9 .no)[5]? = _
      rw [List.getElem?_set_ne (by decide), List.getElem?_set_ne (by decide), List.getElem?_set_self (by omega)]
    · refine lc2_push h g hwe hel ms _ (fun k hk => h1 k (List.mem_cons_of_mem _ hk)) (fun k hk => h2 k (List.mem_cons_of_mem _ hk)) (by simp; omega) ?_
      unfold repl at k ⊢
      rw [List.flatMap_cons, List.map_append, ← List.append_assoc] at k
      exact k
theorem goU_len : ∀ (xs : List Int) (p : Option Int), (goU p xs).length ≤ xs.length
  | [], p => by simp [goU]
  | x :: xs, p => by
    unfold goU
    have := goU_len xs (some x)
    split <;> simp <;> omega
theorem imp_left_of : ∀ ds Q, sp_left_of ds Q → ds.length = 2 ∧ wFn N_left_of wb_left_of ds Q := by
  rintro ds Q ⟨ts, bs, rfl, ok, q⟩
  refine ⟨rfl, ?_⟩
  have hsz := size_big
  have hl := ok.small.len
  rw [List.length_append] at hl
  refine ⟨_, rfl, _, rfl, _, rfl, _, rfl, by simp; omega, ?_⟩
  rw [List.append_nil, star_both]
  refine ⟨ts ++ bs, rfl, fun both hp hs => ?_⟩
  have hbl := hp.length_eq
  rw [List.length_append] at hbl
  have hbm : ∀ m, m ∈ both ↔ m ∈ ts ∨ m ∈ bs := fun m => by rw [hp.mem_iff, List.mem_append]
  refine ⟨_, rfl, _, rfl, ?_⟩
  rw [enum_eq]
  refine uniq_lc (all := both) rfl rfl both [] [] rfl (by simp; omega) ?_
  rw [List.nil_append, show ([] : List Int).getLast? = none from rfl]
  have hu := goU_len both none
  refine ⟨_, rfl, _, rfl, ?_⟩
  refine lc_map D.int (fun m => .tup [.int m, .int ((ts.count m : Int) - bs.count m)]) (goU none both) (fun m hm K1 k1 => ?_) (by omega) ?_
  · refine ⟨_, rfl, _, rfl, _, rfl, ⟨_, ts, m, rfl, isInts_t _, by omega, ⟨_, rfl, _, rfl, ⟨_, bs, m, rfl, isInts_t _, by omega, sz2.mpr trivial, k1⟩⟩⟩⟩
  have hc : ∀ m, -1000 ≤ (ts.count m : Int) - bs.count m ∧ (ts.count m : Int) - bs.count m ≤ 1000 := fun m => by
    have := List.count_le_length (a := m) (l := ts)
    have := List.count_le_length (a := m) (l := bs)
    omega
  refine ⟨_, rfl, _, rfl, ?_⟩
  refine lc2_push id (fun m => (ts.count m : Int) - bs.count m) (fun m P p => ⟨_, rfl, p⟩) rfl (goU none both) [] (fun m _ => (hc m).2) (fun m _ => (hc m).1) (by simp; omega) ?_
  rw [List.nil_append]
  have el := left_same ok.1 ok.2.2.1 hs hbm
  have er := left_same (both := both) ok.2.1 (fun m hm z => ok.2.2.1 m z hm) hs (fun m => by rw [hbm m]; exact Or.comm)
  have e1 : repl (fun m => id ((ts.count m : Int) - bs.count m)) (goU none both) = ts := el
  rw [e1]
  refine ⟨_, rfl, _, rfl, _, rfl, ?_⟩
  refine lc2_push (fun x => -x) (fun m => (ts.count m : Int) - bs.count m) (fun m P p => ⟨_, rfl, p⟩) rfl (goU none both) [] (fun m _ => by have := hc m; omega) (fun m _ => by have := hc m; omega) (by simp; omega) ?_
  rw [List.nil_append]
  have e2 : repl (fun m => -((ts.count m : Int) - bs.count m)) (goU none both) = bs := by
    rw [← er]
    congr 1
    funext m
    rw [er]; omega
  rw [e2]
  exact ⟨sz2.mpr trivial, q⟩
theorem cal_left_of {P : Program} {w : World} {K : PySem.W.Frag} {mg : Str → Option Value} {base : Heap} {Z : Zc} (T : Txt P w K mg base Z) : Cal P w K mg base Z 2 "left_of" sp_left_of :=
  cal_of T.d_left_of sc_left_of imp_left_of fun f cdv A outer s H E hr => b_left_of T f cdv A outer s H E hr
end DL

namespace DL
open PySem PySem.Spec PyProof.Rows L2
theorem _root_.DL.code_tuple_items {prog : Program} {w : World} {A : Around} {E : Value → Shared → Prop} {s : Shared} {T : Type} [DecidableEq T] {knd : KeyKind prog w T} {r d : Addr} {kvs : List (T × Value)} {ep : Nat} {Q₁ : Value → Shared → Prop}
    (hh : A.handled = none) (hv : s.heap.IsItemsView r d) (hm : s.heap.DictAt knd d kvs ep) (hn : kvs.length ≤ sizeLine)
    (h : ∀ (h' : Heap) (tk : Nat) (as : List Addr), (∀ b o, s.heap.get? b = some o → h'.get? b = some o) → as.length = kvs.length → PySem.W.KdxG knd kvs s.heap.objs.size h' as → Q₁ (.ref h'.objs.size) { s with heap := h'.push { cls := .type "tuple", data := .seq (as.map Value.ref).toArray }, toks := tk }) :
    codeAny (model prog w) A (.call (.builtin "tuple.__new__") ⟨[.type "tuple", .ref r], []⟩) (wants Q₁ E) s := by
  refine codeAny_of_tree ?_
  show wpAny _ A.in1 (do checkBuiltinCall "tuple.__new__" ⟨[.type "tuple", .ref r], []⟩; again (.builtin "tuple.__new__" ⟨[.type "tuple", .ref r], []⟩)) _ _ s
  refine wpAny_bind (wpAny_of_eq (F.newCall_tuple_1 _) (wpAny_pure ⟨plainId_quiet F.plain_tuple_new _, codeAny_builtin F.entry_tuple_new ?_⟩))
  rw [Around.under_plainId F.plain_tuple_new _]
  have hsub := sub_tuple_self
  have hinit := init_tuple_lookup
  have hmh := madeHere_tuple
  have hTI := hv.typeIs
  wp_walk using wpAny_typeOf hTI, PySem.W.kdx_collect (A := A.in1) (knd := knd) (show A.in1.handled = none from hh) hv hm hn
  intro h' tk as hk hl hG
  show wpAny _ _ (Builtin.Tuple.tupleExact (as.map Value.ref).toArray >>= fun v => ret v) _ _ _
  unfold Builtin.Tuple.tupleExact
  refine wpAny_bind (wpAny_newObj_type ?_ (show (as.map Value.ref).toArray.size ≤ sizeLine by rw [List.size_toArray, List.length_map, hl]; exact hn))
  exact wpAny_pure (h h' tk as hk hl hG)
theorem call_tuple_items {prog : Program} {w : World} {A : Around} {E : Value → Shared → Prop} {s : Shared} {T : Type} [DecidableEq T] {knd : KeyKind prog w T} {r d : Addr} {kvs : List (T × Value)} {ep : Nat} {Q : Value → Shared → Prop}
    (hh : A.handled = none) (hv : s.heap.IsItemsView r d) (hm : s.heap.DictAt knd d kvs ep) (hn : kvs.length ≤ sizeLine)
    (h : ∀ (h' : Heap) (tk : Nat) (as : List Addr), (∀ b o, s.heap.get? b = some o → h'.get? b = some o) → as.length = kvs.length → PySem.W.KdxG knd kvs s.heap.objs.size h' as → Q (.ref h'.objs.size) { s with heap := h'.push { cls := .type "tuple", data := .seq (as.map Value.ref).toArray }, toks := tk }) :
    wpAny (model prog w) A (call (.type "tuple") [.ref r]) Q E s := by
  refine callType_codes (Q₁ := fun obj s₁ => s₁.TypeIs obj "tuple" ∧ Q obj s₁) F.called_tuple (F.typeCall_tuple_1 _) F.entry_object_init
    (code_tuple_items (knd := knd) (show A.in1.handled = none from hh) hv hm hn fun h' tk as hk hl hG => ⟨⟨_, Heap.get?_push_size _ rfl, rfl⟩, h h' tk as hk hl hG⟩) fun obj s₁ h₁ => ?_
  exact ⟨h₁.1, F.args_object_init_2 obj _, object_init_meets F.called_tuple.init.lookup F.called_tuple.made (by decide) prog w A.in1 _ s₁ ⟨h₁.1, rfl, h₁.2⟩⟩
def tTupItems (te : TE) : TE := fun σ H Q => te σ H fun x H1 => ∃ (d : Addr) (kvs : List (Key × V)), x = .ref d ∧ H1 d = some (.dK kvs) ∧ ∀ p : Addr, Q (.ref p) H1
/-- tuple(e.items()): nothing is told of the tuple -/
theorem pe_tupItems {X : Cx} {e : Expr} {te : TE} {p apos cpos pos : Pos} (hc : X.calm = true) (he : PE X e te) (hg : Gl X "tuple") (hm : X.mg "tuple" = none) (hv : bootBuiltins "tuple" = some (.type "tuple")) (hbase : attributeBase e "items" X.env (eval e X.env) = eval e X.env := by rfl) (hline : (apos.endLine == cpos.line) = true := by rfl)
    (hs : starEach [.Call (.Attribute e "items" apos) [] [] cpos] X.env = (false, eval (.Call (.Attribute e "items" apos) [] [] cpos) X.env) :: starEach [] X.env := by rfl) :
    PE X (.Call (.Name "tuple" p) [.Call (.Attribute e "items" apos) [] [] cpos] [] pos) (tTupItems te) := by
  refine ⟨fun pins s σ H Q I hq => ?_⟩
  refine wpAny_Call_Name_kw (ld_blt I hg hm hv ?_)
  refine PyProof.Rows.callWith_type1 ?_ hs rfl
  rw [hs]
  show wpAny _ _ (spliced ((false, eval (.Call (.Attribute e "items" apos) [] [] cpos) X.env) :: backTo pos (starEach [] X.env))) _ _ s
  refine Calls.spliced_cons ?_
  refine wpAny_Call_method (T := "dict") (id := "dict.items") hbase rfl hline F.plainAttrs_dict F.slot_dict_items F.type_dict_items (thn (he.run pins s σ H _ I hq) fun u s1 ⟨x, H1, I1, rx, d, kvs, ex, hd, q⟩ => ?_)
  subst ex
  obtain rfl : u = Value.ref d := rx
  obtain ⟨hz, hs0, vs, kv, hdo⟩ := I1.hok d _ hd
  obtain ⟨ep, hat⟩ := hdo.dictAt
  have lk : kvs.length = vs.length := Paired.length kv
  have I2 : Inv X pins σ H1 { s1 with heap := s1.heap.push { cls := .type "dict_items", data := .fields #[.ref d] } } := I1.kept (t' := s1.toks) fun b ob q => Heap.get?_push_of_some _ q
  refine ⟨hdo.typeIs, hdo.mapOf.noDict, ?_⟩
  show wpAny _ _ (callWith cpos (.builtin "dict.items") [.ref d] [] []) _ X.xe s1
  refine method_meetsIn F.slot_dict_items F.entry_dict_items rfl (PySem.evalArgs_none ⟨rfl, hdo.typeIs, F.args_dict_items_1 _, _, meets_dict_items (mixKind X.prog X.w) d hs0, ⟨vs, hdo⟩, ?_⟩)
  refine Calls.spliced_nil ?_
  refine call_tuple_items (knd := mixKind X.prog X.w) (kvs := vs) (ep := ep) (I1.ok.hd hc) ⟨_, Heap.get?_push_size _ rfl, rfl, rfl⟩ (hat.push _) (by omega) fun h' tk as hk hl hG => ?_
  have I3 := I2.kept (t' := tk) (h' := h'.push { cls := .type "tuple", data := .seq (as.map Value.ref).toArray }) fun b ob q => Heap.get?_push_of_some _ (hk b ob q)
  exact ⟨.ref _, H1, I3, rfl, q _⟩
section
variable {P : Program} {w : World} {K : PySem.W.Frag} {mg : Str → Option Value} {base : Heap} {Z : Zc}
/-! ### side_text -/
def N_side_text : List Str := ["members", "member"]
theorem sc_side_text : FnScope N_side_text ["members"] (defScope (topAt 34)) := ⟨rfl, rfl, rfl, by decide +kernel, rfl, by decide +kernel, by decide +kernel⟩
def wb_side_text : WS := (wRet (wIfE (wTest (wOp (aEq true) (wVar 0) (wTup wNil))) (wJoin (wC (.str " ")) (wLc (wIT (wVar 0)) (gN 1) wYes (wFmt (wVar 1)) [1])) (wC (.str "-"))))
theorem b_side_text (T : Txt P w K mg base Z) (f : Addr) (cdv : Value) (A : Around) (outer : List Env) (s : Shared) (H : Hp) (E : XK) (hr : Room 0 (A.deeper (envOfC "side_text" (defScope (topAt 34)) s.heap.objs.size f cdv))) :
    PSs (cxOf CX0 P w K mg base N_side_text "side_text" (defScope (topAt 34)) f cdv A outer s H E).nox (defBody (topAt 34)) (tS Z wb_side_text) :=
  (pds_one (pd_ret (pd_ifE (pt_cmpD (op_neD hr.units) (od_ne T.z.k) (pe_vw (pd_var (i := 0) rfl (.inl rfl))) (pe_vw (pd_tup pd_nil))) (pd_join pd_str (pe_frz (pd_lc (own := [("member", 1)]) (is := [1]) rfl sc_side_text.nd (pd_it T.z.k (pd_var (i := 0) rfl (.inl rfl))) (blkOk_by (N := N_side_text) (sc := defScope (topAt 34)) (by decide +kernel)) (fun _ _ _ _ _ => (pd_gn (i := 1) (is := [1]) (by decide) sc_side_text.nd rfl (.inl rfl))) (fun _ _ _ _ _ => pd_yes) (fun _ _ _ _ _ => (pd_fmt (pd_var (i := 1) rfl (.inl rfl)))) (by decide))) (fun env P h => ⟨⟨_, rfl⟩, h⟩)) pd_str)))
end
def sp_side_text : WL := fun ds Q => ∃ ms : List Int, ds = [.tup (ms.map D.int)] ∧ ms.length ≤ 8 ∧ (∀ m ∈ ms, 1 ≤ m ∧ m ≤ 60) ∧ ∀ s : Str, s.length ≤ 1000 → Q (.str s)
theorem str60 : ∀ i ∈ rngI 1 60, (toString i : Str).length ≤ 2 := by decide +kernel
theorem join_le (a : Str) : ∀ l : List Str, (Str.join a l).length ≤ (l.map (·.length)).sum + l.length * a.length
  | [] => by show ("" : Str).length ≤ _; exact Nat.zero_le _
  | [x] => by
    show x.length ≤ _
    simp
  | x :: y :: r => by
    have ih := join_le a (y :: r)
    show (x ++ a ++ Str.join a (y :: r)).length ≤ _
    rw [PySem.Str.length_append, PySem.Str.length_append, List.map_cons, List.sum_cons, List.length_cons, Nat.succ_mul]
    omega
theorem sum_len2 : ∀ {ms : List Int}, (∀ m ∈ ms, 1 ≤ m ∧ m ≤ 60) → ((ms.map fun m => (toString m : Str)).map (·.length)).sum ≤ 2 * ms.length
  | [], _ => by simp
  | m :: ms, h => by
    have ih := sum_len2 fun k hk => h k (List.mem_cons_of_mem _ hk)
    have h1 := h m List.mem_cons_self
    have h2 := str60 m (mem_rngI.mpr (by omega))
    rw [List.map_cons, List.map_cons, List.sum_cons, List.length_cons]
    omega
theorem imp_side_text : ∀ ds Q, sp_side_text ds Q → ds.length = 1 ∧ wFn N_side_text wb_side_text ds Q := by
  rintro ds Q ⟨ms, rfl, hl, hm, q⟩
  refine ⟨rfl, ?_⟩
  have hsz := size_big
  refine ⟨_, rfl, by decide, cmp_tupI ms, cmp_tupI [], _, rfl, ?_⟩
  rw [show D.tup [] = D.tup (List.map D.int []) from rfl, eqv_tupI]
  by_cases e : ms = []
  · refine ite_f (by rw [decide_eq_true e]; rfl) ?_
    exact q _ (by decide +kernel)
  · refine ite_t (by rw [decide_eq_false e]; rfl) ?_
    refine ⟨_, rfl, _, rfl, ?_⟩
    refine lc_map D.int (fun m => .str (toString m)) ms (fun m hm' K1 k1 => ?_) (by omega) ?_
    · have := hm m hm'
      refine ⟨_, rfl, m, rfl, ?_, k1⟩
      have h2 : m.natAbs < 2 ^ 6 := by omega
      have h3 : m.natAbs.log2 < 6 := (Nat.log2_lt (by omega)).mpr h2
      omega
    · have e1 : ms.map (fun m => D.str (toString m)) = (ms.map fun m => (toString m : Str)).map D.str := by rw [List.map_map]; rfl
      have hs := sum_len2 hm
      have hz : ((ms.map fun m => (toString m : Str)).map (·.length)).sum + (ms.map fun m => (toString m : Str)).length * (" " : Str).length ≤ 24 := by
        rw [List.length_map, show ((" " : Str)).length = 1 by decide +kernel]
        omega
      refine ⟨_, ms.map fun m => (toString m : Str), rfl, congrArg D.lst e1, by omega, q _ ?_⟩
      rw [TL.join_eq]
      have := join_le (" " : Str) (ms.map fun m => (toString m : Str))
      omega
theorem cal_side_text {P : Program} {w : World} {K : PySem.W.Frag} {mg : Str → Option Value} {base : Heap} {Z : Zc} (T : Txt P w K mg base Z) : Cal P w K mg base Z 1 "side_text" sp_side_text :=
  cal_of T.d_side_text sc_side_text imp_side_text fun f cdv A outer s H E hr => b_side_text T f cdv A outer s H E hr
end DL

namespace DL
open PySem PySem.Spec PyProof.Rows L2
/-! ### a row is made -/
structure InI (Z : Zc) (B : Addr) (H1 F0 : Hp) (x dx : Addr) (vs : List (Option V)) (F H : Hp) : Prop where
  fr : Fr B H1 F0 H F
  sl : SlX.Slt H x Z.C dx vs
  fx : F x = none
  fdx : F dx = none
  hdx : H dx ≠ none
theorem InI.step {Z : Zc} {B : Addr} {H1 F0 : Hp} {x dx : Addr} {vs : List (Option V)} {F H F' H' : Hp} (h : InI Z B H1 F0 x dx vs F H) (h1 : HdOk B F0 H1) (hx : H1 x = none) (hdx : H1 dx = none) (f : Fr B H F H' F') : InI Z B H1 F0 x dx vs F' H' := by
  have nx := h1.newB hx
  have ndx := h1.newB hdx
  have hxs : H x ≠ none := by
    rcases h.sl with ⟨e, _⟩ | ⟨e, _⟩ <;> (rw [e]; simp)
  refine ⟨Fr.trans h1 h.fr f, ?_, by rw [f.new x hxs]; exact h.fx, by rw [f.new dx h.hdx]; exact h.fdx, f.some h.fr.hd h.hdx⟩
  rcases h.sl with ⟨e, e2⟩ | ⟨e, e2⟩
  · exact .inl ⟨f.keep _ _ nx e, e2⟩
  · exact .inr ⟨f.keep _ _ nx e, f.keep _ _ ndx e2⟩
theorem InI.put {Z : Zc} {B : Addr} {H1 F0 : Hp} {x dx : Addr} {vs : List (Option V)} {F H : Hp} (h : InI Z B H1 F0 x dx vs F H) (h1 : HdOk B F0 H1) (hx : H1 x = none) (hdx : H1 dx = none) (ne : dx ≠ x) (ws : List (Option V)) : InI Z B H1 F0 x dx ws F (SlX.slH H x Z.C dx ws) := by
  have nx := h1.newB hx
  have ndx := h1.newB hdx
  refine ⟨(h.fr.put hdx ndx h.fdx).put hx nx h.fx, SlX.slH_slt ne, h.fx, h.fdx, ?_⟩
  unfold SlX.slH
  rw [upd_ne ne, upd_same]; simp
theorem SR.free {Z : Zc} {B : Addr} {O : Addr → Prop} {F H H' : Hp} {σ : L2.St} {env : En} (s : SR Z B O F H σ env) (h : ∀ (i : Nat) (sl : Sl), env[i]? = some sl → ¬ sl.isOwn) : SR Z B O F H' σ env := by
  obtain ⟨ad, inj, q⟩ := s.ad
  refine ⟨s.len, ad, inj, fun i t e => ?_⟩
  have z := q i t e
  cases t with
  | no => trivial
  | val d => exact z
  | own d => exact absurd trivial (h i _ e)
theorem InI.row {Z : Zc} {B : Addr} {H1 F0 : Hp} {x dx : Addr} {vs : List (Option V)} {F H : Hp} (h : InI Z B H1 F0 x dx vs F H) (h1 : HdOk B F0 H1) (hx : H1 x = none) (hdx : H1 dx = none) (ne : dx ≠ x) {ts bs : List Int} {v3 v4 : V} (e5 : vs[5]? = some (some v3)) (e1 : vs[1]? = some (some v4)) (hne : vs ≠ [])
    (r3 : Rep Z B F (.tup (ts.map D.int)) v3) (r4 : Rep Z B F (.tup (bs.map D.int)) v4) : ∃ F', Fr B H1 F0 H F' ∧ RowAt Z F' x ts bs := by
  have nx := h1.newB hx
  have ndx := h1.newB hdx
  obtain ⟨ex, edx⟩ : H x = some (SlX.SlO x Z.C dx vs) ∧ H dx = some (.xd []) := by
    rcases h.sl with ⟨_, e⟩ | e
    · exact absurd e hne
    · exact e
  have le1 : Le F (upd F dx (.xd [])) := le_upd h.fdx
  have le2 : Le (upd F dx (.xd [])) (upd (upd F dx (.xd [])) x (SlX.SlO x Z.C dx vs)) := le_upd (by rw [upd_ne ne.symm]; exact h.fx)
  have le := le1.trans le2
  refine ⟨upd (upd F dx (.xd [])) x (SlX.SlO x Z.C dx vs), ⟨h.fr.keep, fun a ha => ?_, ⟨fun a o e => ?_, ?_, h.fr.hd.bag⟩⟩, ?_⟩
  · have n1 : a ≠ x := fun z => ha (z ▸ hx)
    have n2 : a ≠ dx := fun z => ha (z ▸ hdx)
    rw [upd_ne n1, upd_ne n2]; exact h.fr.new a ha
  · by_cases z1 : a = x
    · subst z1; rw [upd_same] at e; cases e; exact ex
    · rw [upd_ne z1] at e
      by_cases z2 : a = dx
      · subst z2; rw [upd_same] at e; cases e; exact edx
      · rw [upd_ne z2] at e; exact h.fr.hd.le a o e
  · rw [upd_ne nx.symm, upd_ne ndx.symm]; exact h.fr.hd.fb
  · obtain ⟨p, xs, ep, sp, rp⟩ := r3
    obtain ⟨q, ys, eq, sq, rq⟩ := r4
    subst ep; subst eq
    rw [rp.ints] at sp
    rw [rq.ints] at sq
    refine ⟨dx, vs, p, q, upd_same, ?_, e5, e1, le.sqT sp, le.sqT sq⟩
    rw [upd_ne ne, upd_same]
section
variable {P : Program} {w : World} {K : PySem.W.Frag} {mg : Str → Option Value} {base : Heap} {Z : Zc}
theorem pr_call {X : Cx} {e : Expr} {es : List Expr} {x : Str} {wl : WL} {ta : TA} {p pos : Pos} {k kk : Nat} (c : Cal X.prog X.w X.K X.mg X.base Z k x wl) (hr : Room kk X.A) (hk : k ≤ kk) (hg : Gl X x)
    (ha : PA X (e :: es) ta) (hdb : (x == ("__debug__" : Str)) = false := by decide)
    (he : starEach (e :: es) X.env = (false, eval e X.env) :: starEach es X.env := by rfl) (hpl : (backTo pos (starEach es X.env)).any (·.1) = false := by rfl) : PE X (.Call (.Name x p) (e :: es) [] pos) (fun σ H Q => ta σ H fun vs H1 => spD Z wl vs H1 Q fun _ _ _ => False) := by
  obtain ⟨f, hm, hkp, Fn⟩ := c
  refine ⟨fun pins s σ H Q I hq => wpAny_Call_Name_kw (ld_glob I hg hm ?_ hdb)⟩
  refine PySem.W.callWith_K I.ok.mod.kin hkp ?_ he hpl
  refine thn (ha.run pos pins s σ H (fun vs H1 => spD Z wl vs H1 Q fun _ _ _ => False) I hq) fun us s1 ⟨vs, H1, I1, r, z⟩ => ⟨I1.kIn, ?_⟩
  exact wpAny_call (run_fnR Fn (hr.mono hk) pass0 I1 r z)
def N_init : List Str := ["self", "tops", "bottoms", "above", "below"]
theorem sc_init : FnScope N_init ["self", "tops", "bottoms"] (defScope (clsAt 38 1)) := ⟨rfl, rfl, rfl, by decide +kernel, rfl, by decide +kernel, by decide +kernel⟩
def wi0 : WT := (wOr (wNot (wTest (wCall sp_is_side (wCons (wVar 1) wNil)))) (wNot (wTest (wCall sp_is_side (wCons (wVar 2) wNil)))))
def wi1 : WE := (wCall sp_left_of (wCons (wVar 1) (wCons (wVar 2) wNil)))
def wi2 : WT := (wNot (wTest (wCall sp_tells_row (wCons (wVar 3) (wCons (wVar 4) wNil)))))
def wi3 : WE := (wCall aTuple (wCons (wVar 3) wNil))
def wi4 : WE := (wCall aTuple (wCons (wVar 4) wNil))
def wi5 : WE := (wCall aTuple (wCons (wOp aCat (wVar 3) (wVar 4)) wNil))
def wi6 : WE := (wCall sp_counted (wCons (wVar 3) (wCons (wVar 4) wNil)))
def tText (Z : Zc) (K : PySem.W.Frag) (f : Str) : TE := tFmt (fun σ H Q => tCons (SlX.tSl K (tVar 0) f) tNil σ H fun vs H1 => spD Z sp_side_text vs H1 Q fun _ _ _ => False)
theorem b_init (T : Txt P w K mg base Z) (f : Addr) (cdv : Value) (A : Around) (outer : List Env) (s : Shared) (H : Hp) (E : XK) (hr : Room 3 (A.deeper (envOfC "Quotient.__init__" (defScope (clsAt 38 1)) s.heap.objs.size f cdv))) :
    PSs (cxOf CX0 P w K mg base N_init "Quotient.__init__" (defScope (clsAt 38 1)) f cdv A outer s H E).nox (defBody (clsAt 38 1))
      (tSeq (tIfS (tT Z wi0) tNever tNext) (tSeq (tAsg (tE Z .frz wi1) (tG Z [3, 4] (gT 2 (gsC (gN 3) (gsC (gN 4) gsN))))) (tSeq (tIfS (tT Z wi2) tNever tNext)
        (tSeq (SlX.sSl K (tVar 0) (tE Z .frz wi3) "own_tops") (tSeq (SlX.sSl K (tVar 0) (tE Z .frz wi4) "own_bottoms") (tSeq (SlX.sSl K (tVar 0) (tE Z .frz wi5) "own_all") (tSeq (SlX.sSl K (tVar 0) (tE Z .frz wi6) "own_members")
          (tSeq (SlX.sSl K (tVar 0) (tTupItems (SlX.tSl K (tVar 0) "own_members")) "own_pairs") (tSeq (SlX.sSl K (tVar 0) (fun σ H Q => tJs [tC (.str "quotient "), tText Z K "own_tops", tC (.str "/"), tText Z K "own_bottoms"] Str.empty σ H fun out H1 => Q (.str out) H1) "own_text") tNext))))))))) := by
  refine pss_cons (ps_if (PW.pt (pw_orD (pt_notD (pt_valD (pd_call (cal_is_side T) hr (by decide) rfl (pd_cons (pd_var (i := 1) rfl (.inl rfl)) pd_nil)))) (pw_or1D (pt_notD (pt_valD (pd_call (cal_is_side T) hr (by decide) rfl (pd_cons (pd_var (i := 2) rfl (.inl rfl)) pd_nil))))))) pss_never pss_nil) ?_
  refine pss_cons (ps_asg (pd_call (cal_left_of T) hr (by decide) rfl (pd_cons (pd_var (i := 1) rfl (.inl rfl)) (pd_cons (pd_var (i := 2) rfl (.inl rfl)) pd_nil))) (pd_gt (n := 2) T.z.k rfl (pd_gsc (pd_gn (i := 3) (is := [3, 4]) (by decide) sc_init.nd rfl (.inl rfl)) (pd_gsc (pd_gn (i := 4) (is := [3, 4]) (by decide) sc_init.nd rfl (.inl rfl)) pd_gsn)))) ?_
  refine pss_cons (ps_if (pt_notD (pt_valD (pd_call (cal_tells_row T) hr (by decide) rfl (pd_cons (pd_var (i := 3) rfl (.inl rfl)) (pd_cons (pd_var (i := 4) rfl (.inl rfl)) pd_nil))))) pss_never pss_nil) ?_
  refine pss_cons (SlX.ps_sl (pe_var (i := 0) rfl (.inl rfl)) (pd_callTy (cd_tuple T.z.k) call_tuple_of rfl T.h_tuple boot_tuple (pd_consV (pe_vw (pd_var (i := 3) rfl (.inl rfl))) pd_nil))) ?_
  refine pss_cons (SlX.ps_sl (pe_var (i := 0) rfl (.inl rfl)) (pd_callTy (cd_tuple T.z.k) call_tuple_of rfl T.h_tuple boot_tuple (pd_consV (pe_vw (pd_var (i := 4) rfl (.inl rfl))) pd_nil))) ?_
  refine pss_cons (SlX.ps_sl (pe_var (i := 0) rfl (.inl rfl)) (pd_callTy (cd_tuple T.z.k) call_tuple_of rfl T.h_tuple boot_tuple (pd_consV (pe_nv (pd_op op_cat od_cat (pe_vw (pd_var (i := 3) rfl (.inl rfl))) (pe_vw (pd_var (i := 4) rfl (.inl rfl))))) pd_nil))) ?_
  refine pss_cons (SlX.ps_sl (pe_var (i := 0) rfl (.inl rfl)) (pd_call (cal_counted T) hr (by decide) rfl (pd_cons (pd_var (i := 3) rfl (.inl rfl)) (pd_cons (pd_var (i := 4) rfl (.inl rfl)) pd_nil)))) ?_
  refine pss_cons (SlX.ps_sl (pe_var (i := 0) rfl (.inl rfl)) (pe_tupItems rfl (SlX.pe_sl (pe_var (i := 0) rfl (.inl rfl))) rfl T.h_tuple boot_tuple)) ?_
  refine pss_cons (SlX.ps_sl (pe_var (i := 0) rfl (.inl rfl)) ?_) pss_nil
  refine pe_joined ?_
  refine PJ.cons pe_str ?_
  refine PJ.cons (pe_fmt ?_) ?_
  · exact pr_call (cal_side_text T) hr (by decide) rfl (pa_cons (SlX.pe_sl (pe_var (i := 0) rfl (.inl rfl))) pa_nil)
  refine PJ.cons pe_str ?_
  refine PJ.cons (pe_fmt ?_) PJ.nil
  exact pr_call (cal_side_text T) hr (by decide) rfl (pa_cons (SlX.pe_sl (pe_var (i := 0) rfl (.inl rfl))) pa_nil)
def tBody (Z : Zc) (K : PySem.W.Frag) : TS := (tSeq (tIfS (tT Z wi0) tNever tNext) (tSeq (tAsg (tE Z .frz wi1) (tG Z [3, 4] (gT 2 (gsC (gN 3) (gsC (gN 4) gsN))))) (tSeq (tIfS (tT Z wi2) tNever tNext)
        (tSeq (SlX.sSl K (tVar 0) (tE Z .frz wi3) "own_tops") (tSeq (SlX.sSl K (tVar 0) (tE Z .frz wi4) "own_bottoms") (tSeq (SlX.sSl K (tVar 0) (tE Z .frz wi5) "own_all") (tSeq (SlX.sSl K (tVar 0) (tE Z .frz wi6) "own_members")
          (tSeq (SlX.sSl K (tVar 0) (tTupItems (SlX.tSl K (tVar 0) "own_members")) "own_pairs") (tSeq (SlX.sSl K (tVar 0) (fun σ H Q => tJs [tC (.str "quotient "), tText Z K "own_tops", tC (.str "/"), tText Z K "own_bottoms"] Str.empty σ H fun out H1 => Q (.str out) H1) "own_text") tNext)))))))))
theorem frs_ints {ms : List Int} {B : Addr} {F : Hp} {v : V} (r : Rep Z B F (.lst (ms.map D.int)) v) : ∃ a, v = .ref a ∧ F a = some (.lst (ms.map V.int)) := by
  obtain ⟨a, xs, e, h, q⟩ := r
  rw [q.ints] at h
  exact ⟨a, e, h⟩
theorem init_sem (z : ZOk K Z) (s0 : ∃ p, SlX.Slot1 K Z.C "own_all" p 0) (s1 : ∃ p, SlX.Slot1 K Z.C "own_bottoms" p 1) (s2 : ∃ p, SlX.Slot1 K Z.C "own_members" p 2) (s3 : ∃ p, SlX.Slot1 K Z.C "own_pairs" p 3) (s4 : ∃ p, SlX.Slot1 K Z.C "own_text" p 4) (s5 : ∃ p, SlX.Slot1 K Z.C "own_tops" p 5)
    {vs : List V} {H : Hp} {Q : VK} {E : XK} (h : spInit Z RowOk vs H Q E) : tBody Z K { nx := fun _ H' => Q .non H', rt := Q } (start N_init vs) H := by
  obtain ⟨B, F, H1, x, dx, v1, v2, ts, bs, rfl, rfl, hx, hdx, ne, hd1, r1, r2, ok, q⟩ := h
  have hgood := ok.2.2.2
  have hsm := hgood.1
  have hsz := size_big
  have nx := hd1.newB hx
  have hxd : (upd H1 dx (.own x)) x = none := by rw [upd_ne ne.symm]; exact hx
  have f1 : Fr B H1 F (upd H1 dx (.own x)) F := Fr.laidN hd1 hdx
  have f2 : Fr B (upd H1 dx (.own x)) F (upd (upd H1 dx (.own x)) x (.ins Z.C dx [])) F := Fr.laidN f1.hd hxd
  have i0 : InI Z B H1 F x dx [] F (upd (upd H1 dx (.own x)) x (.ins Z.C dx [])) := ⟨Fr.trans hd1 f1 f2, .inl ⟨upd_same, rfl⟩, hd1.noneF hx, hd1.noneF hdx, by rw [upd_ne ne, upd_same]; simp⟩
  revert i0
  generalize upd (upd H1 dx (.own x)) x (.ins Z.C dx []) = H
  intro i0
  have sr0 : SR Z B (fun _ => False) F H [some (.ref x), some v1, some v2, none, none] [.no, .val (.tup (ts.map D.int)), .val (.tup (bs.map D.int)), .no, .no] := by
    refine ⟨rfl, fun _ => 0, fun i j s t e1 e2 o1 o2 _ => ?_, fun i s e => ?_⟩
    · rcases i with _ | _ | _ | _ | _ | i <;> simp at e1 <;> subst e1 <;> exact o1.elim
    · rcases i with _ | _ | _ | _ | _ | i <;> simp at e <;> subst e
      · trivial
      · exact ⟨v1, rfl, r1⟩
      · exact ⟨v2, rfl, r2⟩
      · trivial
      · trivial
  have hts : ∀ m ∈ ts, 1 ≤ m ∧ m ≤ 60 := fun m hm => hsm.1 m (List.mem_append_left _ hm)
  have hbs : ∀ m ∈ bs, 1 ≤ m ∧ m ≤ 60 := fun m hm => hsm.1 m (List.mem_append_right _ hm)
  -- the first test
  refine ⟨B, _, F, _, fun b => b = false, i0.fr.hd, sr0, ?_, fun b F1 H2 hb f => ?_⟩
  · exact ⟨_, rfl, ⟨ts, rfl, hsm.2.1, hts, ⟨true, rfl, _, rfl, ⟨bs, rfl, hsm.2.2.1, hbs, ⟨true, rfl, rfl⟩⟩⟩⟩⟩
  subst hb
  have i1 := i0.step hd1 hx hdx f
  have sr1 := sr0.step i0.fr.hd f
  clear f sr0 i0
  -- above, below
  refine ⟨B, _, F1, _, fun d => d = .tup [.lst (ts.map D.int), .lst (bs.map D.int)], i1.fr.hd, sr1, ?_, fun d F2 H3 v hd f r => ?_⟩
  · exact ⟨_, rfl, _, rfl, ⟨ts, bs, rfl, ok, rfl⟩⟩
  subst hd
  have i2 := i1.step hd1 hx hdx f
  have sr2 := sr1.step i1.fr.hd f
  clear f sr1 i1
  refine ⟨B, _, F2, _, _, fun env' => env' = [.no, .val (.tup (ts.map D.int)), .val (.tup (bs.map D.int)), .val (.lst (ts.map D.int)), .val (.lst (bs.map D.int))], i2.fr.hd, sr2, r, ⟨_, rfl, rfl, rfl⟩, fun env' σ he sr3 off => ?_⟩
  subst he
  have hself : σ[0]? = some (some (V.ref x)) := by rw [off.2 0 (by decide)]; rfl
  clear off sr2 r
  -- the second test
  refine ⟨B, _, F2, _, fun b => b = false, i2.fr.hd, sr3, ?_, fun b F3 H4 hb f => ?_⟩
  · exact ⟨_, rfl, _, rfl, ⟨_, _, ts, bs, rfl, isInts_l _, isInts_l _, hgood, ⟨true, rfl, rfl⟩⟩⟩
  subst hb
  have i3 := i2.step hd1 hx hdx f
  have sr4 := sr3.step i2.fr.hd f
  clear f sr3 i2
  have free : ∀ (i : Nat) (sl : Sl), ([Sl.no, .val (.tup (ts.map D.int)), .val (.tup (bs.map D.int)), .val (.lst (ts.map D.int)), .val (.lst (bs.map D.int))] : En)[i]? = some sl → ¬ sl.isOwn := fun i sl e o => by
    rcases i with _ | _ | _ | _ | _ | i <;> simp at e <;> subst e <;> exact o.elim
  obtain ⟨p0, s0⟩ := s0
  obtain ⟨p1, s1⟩ := s1
  obtain ⟨p2, s2⟩ := s2
  obtain ⟨p3, s3⟩ := s3
  obtain ⟨p4, s4⟩ := s4
  obtain ⟨p5, s5⟩ := s5
  -- own_tops
  refine ⟨B, _, F3, _, fun d => d = .tup (ts.map D.int), i3.fr.hd, sr4, ?_, fun d F4 H5 v5 hd f r5 => ?_⟩
  · exact ⟨_, rfl, ⟨_, _, rfl, rfl, rfl⟩⟩
  subst hd
  have i4 := i3.step hd1 hx hdx f
  have sr5 := sr4.step i3.fr.hd f
  clear f sr4 i3
  refine ⟨_, hself, x, Z.C, dx, p5, _, 5, rfl, i4.sl, z.cls, s5, ?_⟩
  have i5 := i4.put hd1 hx hdx ne (SlX.putS 5 v5 [])
  have sr6 := sr5.free (H' := SlX.slH H5 x Z.C dx (SlX.putS 5 v5 [])) free
  clear i4 sr5
  -- own_bottoms
  refine ⟨B, _, F4, _, fun d => d = .tup (bs.map D.int), i5.fr.hd, sr6, ?_, fun d F6 H6 v6 hd f r6 => ?_⟩
  · exact ⟨_, rfl, ⟨_, _, rfl, rfl, rfl⟩⟩
  subst hd
  have le6 := f.leF i5.fr.hd
  have r5' := Rep.mono le6 r5
  have i6 := i5.step hd1 hx hdx f
  have sr7 := sr6.step i5.fr.hd f
  clear f sr6 i5 r5
  refine ⟨_, hself, x, Z.C, dx, p1, _, 1, rfl, i6.sl, z.cls, s1, ?_⟩
  have i7 := i6.put hd1 hx hdx ne (SlX.putS 1 v6 (SlX.putS 5 v5 []))
  have sr8 := sr7.free (H' := SlX.slH H6 x Z.C dx (SlX.putS 1 v6 (SlX.putS 5 v5 []))) free
  clear i6 sr7
  -- own_all
  refine ⟨B, _, F6, _, fun _ => True, i7.fr.hd, sr8, ?_, fun d F7 H7 v7 _ f _ => ?_⟩
  · exact ⟨_, rfl, _, rfl, ⟨_, _, rfl, rfl, by have := hsm.2.1; have := hsm.2.2.1; simp; omega, ⟨_, _, rfl, rfl, trivial⟩⟩⟩
  have le7 := f.leF i7.fr.hd
  have r5 := Rep.mono le7 r5'
  have r6' := Rep.mono le7 r6
  have i8 := i7.step hd1 hx hdx f
  have sr9 := sr8.step i7.fr.hd f
  clear f sr8 i7 r5' r6
  refine ⟨_, hself, x, Z.C, dx, p0, _, 0, rfl, i8.sl, z.cls, s0, ?_⟩
  generalize ew8 : SlX.putS 0 v7 (SlX.putS 1 v6 (SlX.putS 5 v5 [])) = w8
  have a5 : w8[5]? = some (some v5) := by rw [← ew8, SlX.putS_ne (by decide), SlX.putS_ne (by decide), SlX.putS_get]
  have a1 : w8[1]? = some (some v6) := by rw [← ew8, SlX.putS_ne (by decide), SlX.putS_get]
  clear ew8
  have i9 := i8.put hd1 hx hdx ne w8
  have sr10 := sr9.free (H' := SlX.slH H7 x Z.C dx w8) free
  clear i8 sr9
  -- own_members
  refine ⟨B, _, F7, _, fun d => ∃ kvs, d = .dic kvs, i9.fr.hd, sr10, ?_, fun d F8 H8 v8 hd f r8 => ?_⟩
  · exact ⟨_, rfl, _, rfl, ⟨_, _, ts, bs, rfl, isInts_l _, isInts_l _, hsm.2.1, hsm.2.2.1, fun kvs _ => ⟨kvs, rfl⟩⟩⟩
  obtain ⟨kvs, rfl⟩ := hd
  have le8 := f.leF i9.fr.hd
  have r5' := Rep.mono le8 r5
  have r6 := Rep.mono le8 r6'
  have i10 := i9.step hd1 hx hdx f
  have sr11 := sr10.step i9.fr.hd f
  clear f sr10 i9 r5 r6'
  refine ⟨_, hself, x, Z.C, dx, p2, _, 2, rfl, i10.sl, z.cls, s2, ?_⟩
  generalize ew9 : SlX.putS 2 v8 w8 = w9
  have b5 : w9[5]? = some (some v5) := by rw [← ew9, SlX.putS_ne (by decide)]; exact a5
  have b1 : w9[1]? = some (some v6) := by rw [← ew9, SlX.putS_ne (by decide)]; exact a1
  have b2 : w9[2]? = some (some v8) := by rw [← ew9, SlX.putS_get]
  clear ew9 a5 a1
  have i11 := i10.put hd1 hx hdx ne w9
  have sr12 := sr11.free (H' := SlX.slH H8 x Z.C dx w9) free
  clear i10 sr11
  -- own_pairs
  obtain ⟨am, em, hm⟩ := r8
  refine ⟨_, hself, x, Z.C, dx, p2, _, 2, v8, rfl, i11.sl, z.cls, s2, b2, am, encD kvs, em, i11.fr.hd.le _ _ hm, fun pp => ?_⟩
  refine ⟨_, hself, x, Z.C, dx, p3, _, 3, rfl, i11.sl, z.cls, s3, ?_⟩
  generalize ew10 : SlX.putS 3 (V.ref pp) w9 = w10
  have c5 : w10[5]? = some (some v5) := by rw [← ew10, SlX.putS_ne (by decide)]; exact b5
  have c1 : w10[1]? = some (some v6) := by rw [← ew10, SlX.putS_ne (by decide)]; exact b1
  clear ew10 b5 b1 b2
  have i12 := i11.put hd1 hx hdx ne w10
  have sr13 := sr12.free (H' := SlX.slH (SlX.slH H8 x Z.C dx w9) x Z.C dx w10) free
  clear i11 sr12
  -- own_text
  have q1 : (Str.empty ++ ("quotient " : Str)).length = 9 := by decide +kernel
  have q2 : (("/" : Str)).length = 1 := by decide +kernel
  refine ⟨_, rfl, by rw [q1]; omega, ?_⟩
  refine ⟨_, hself, x, Z.C, dx, p5, _, 5, v5, rfl, i12.sl, z.cls, s5, c5, ?_⟩
  refine ⟨B, F8, [.tup (ts.map D.int)], fun d => ∃ y : Str, d = D.str y ∧ y.length ≤ 1000, i12.fr.hd, Reps.cons r5' Reps.nil, ⟨ts, rfl, hsm.2.1, hts, fun t1 ht1 => ⟨t1, rfl, ht1⟩⟩, fun d F9 H9 v9 hd f r9 => ?_⟩
  obtain ⟨t1, rfl, ht1⟩ := hd
  have i13 := i12.step hd1 hx hdx f
  have le9 := f.leF i12.fr.hd
  have r5 := Rep.mono le9 r5'
  have r6' := Rep.mono le9 r6
  clear f i12 sr13
  refine .inl ⟨t1, r9, by omega, ?_⟩
  refine ⟨_, rfl, by rw [PySem.Str.length_append, q1]; omega, ?_⟩
  refine ⟨_, rfl, by rw [PySem.Str.length_append, PySem.Str.length_append, q1, q2]; omega, ?_⟩
  refine ⟨_, hself, x, Z.C, dx, p1, _, 1, v6, rfl, i13.sl, z.cls, s1, c1, ?_⟩
  refine ⟨B, F9, [.tup (bs.map D.int)], fun d => ∃ y : Str, d = D.str y ∧ y.length ≤ 1000, i13.fr.hd, Reps.cons r6' Reps.nil, ⟨bs, rfl, hsm.2.2.1, hbs, fun t1 ht1 => ⟨t1, rfl, ht1⟩⟩, fun d F10 H10 v10 hd f r10 => ?_⟩
  obtain ⟨t2, rfl, ht2⟩ := hd
  have i14 := i13.step hd1 hx hdx f
  have le10 := f.leF i13.fr.hd
  have r5' := Rep.mono le10 r5
  have r6 := Rep.mono le10 r6'
  refine .inl ⟨t2, r10, by omega, ?_⟩
  refine ⟨_, rfl, by rw [PySem.Str.length_append, PySem.Str.length_append, PySem.Str.length_append, q1, q2]; omega, ?_⟩
  refine ⟨_, hself, x, Z.C, dx, p4, _, 4, rfl, i14.sl, z.cls, s4, ?_⟩
  generalize ew11 : SlX.putS 4 (V.str (Str.empty ++ ("quotient " : Str) ++ t1 ++ ("/" : Str) ++ t2)) w10 = w11
  have d5 : w11[5]? = some (some v5) := by rw [← ew11, SlX.putS_ne (by decide)]; exact c5
  have d1 : w11[1]? = some (some v6) := by rw [← ew11, SlX.putS_ne (by decide)]; exact c1
  have i15 := i14.put hd1 hx hdx ne w11
  obtain ⟨F', fr, row⟩ := i15.row hd1 hx hdx ne d5 d1 (by intro z; rw [z] at d5; simp at d5) r5' r6
  exact q F' _ fr row
theorem mk_row (T : Txt P w K mg base Z) : MakeAt P w K mg base Z 4 RowOk := by
  obtain ⟨f, hM, fd, F, b⟩ := T.init
  refine ⟨f, hM, T.c_Quotient, ?_⟩
  have G : FnOk P w K mg base CX0 4 f fd ["self", "tops", "bottoms"] (spInit Z RowOk) := F.ok sc_init (fun vs H Q E h => by
    obtain ⟨B, F, H1, x, dx, v1, v2, ts, bs, rfl, _⟩ := h
    rfl) fun cdv A outer s H vs Q E hr h => ⟨_, b_init T f cdv A outer s H E hr, init_sem T.z T.s_own_all T.s_own_bottoms T.s_own_members T.s_own_pairs T.s_own_text T.s_own_tops h⟩
  have := G.raw b .nil
  simpa only [List.append_nil] using this
end
section
variable {P : Program} {w : World} {K : PySem.W.Frag} {mg : Str → Option Value} {base : Heap} {Z : Zc}
/-! ### exchanged -/
def N_exchanged : List Str := ["self"]
theorem sc_exchanged : FnScope N_exchanged ["self"] (defScope (clsAt 38 16)) := ⟨rfl, rfl, rfl, by decide +kernel, rfl, by decide +kernel, by decide +kernel⟩
def wb_exchanged : WS := (wRet (wMake RowOk (wBots (wVar 0)) (wTops (wVar 0))))
theorem b_exchanged (T : Txt P w K mg base Z) (f : Addr) (cdv : Value) (A : Around) (outer : List Env) (s : Shared) (H : Hp) (E : XK) (hr : Room 5 (A.deeper (envOfC "Quotient.exchanged" (defScope (clsAt 38 16)) s.heap.objs.size f cdv))) :
    PSs (cxOf CX0 P w K mg base N_exchanged "Quotient.exchanged" (defScope (clsAt 38 16)) f cdv A outer s H E).nox (defBody (clsAt 38 16)) (tS Z wb_exchanged) :=
  (pds_one (pd_ret (pd_make (mk_row T) hr (by decide) rfl (pd_bots T.z (pd_var (i := 0) rfl (.inl rfl))) (pd_tops T.z (pd_var (i := 0) rfl (.inl rfl))))))
end
def sp_exchanged : WL := fun ds Q => ∃ ts bs, ds = [.row ts bs] ∧ RowOk bs ts ∧ Q (.row bs ts)
theorem imp_exchanged : ∀ ds Q, sp_exchanged ds Q → ds.length = 1 ∧ wFn N_exchanged wb_exchanged ds Q := by
  rintro ds Q ⟨ts, bs, rfl, h, q⟩
  refine ⟨rfl, ?_⟩
  exact ⟨_, rfl, _, rfl, bs, ts, rfl, rfl, h, q⟩
theorem at_exchanged {P : Program} {w : World} {K : PySem.W.Frag} {mg : Str → Option Value} {base : Heap} {Z : Zc} (T : Txt P w K mg base Z) : MethAt P w K mg base Z 6 "exchanged" sp_exchanged := by
  obtain ⟨f, h1, h2⟩ := T.m_exchanged
  exact ⟨f, h1, fnr_of h2 sc_exchanged imp_exchanged fun cdv A outer s H E hr => b_exchanged T f cdv A outer s H E hr⟩
end DL

namespace DL
open PySem PySem.Spec PyProof.Rows L2
/-! ### whole rows: no exponent below 0 -/
theorem faultF_none : ∀ {sts : List ((Int × Int) × Int)}, faultF sts = none ↔ ∀ s ∈ sts, 0 ≤ s.2
  | [] => by unfold faultF; simp
  | s :: r => by
    unfold faultF
    by_cases hs : s.2 < 0
    · rw [if_pos hs]
      constructor
      · intro h; cases h
      · intro h; have := h s List.mem_cons_self; omega
    · rw [if_neg hs, faultF_none]
      constructor
      · intro h x hx
        rcases List.mem_cons.mp hx with rfl | hx
        · omega
        · exact h x hx
      · intro h x hx; exact h x (List.mem_cons_of_mem _ hx)
/-- no depth below 0 -/
def NN (ts bs : List Int) : Prop := ∀ i, 0 ≤ i → i < multI (ts ++ bs) → 0 ≤ depI ts bs i
theorem dep_at {ts bs : List Int} (h : Good ts bs) : ∀ k : Nat, (k : Int) < multI (ts ++ bs) → ∃ j ∈ stI ts bs, depI ts bs k = depI ts bs j
  | 0, _ => ⟨0, by unfold stI; exact List.mem_cons_self, rfl⟩
  | k + 1, hk => by
    obtain ⟨j, hj, e⟩ := dep_at h k (by omega)
    by_cases c : depI ts bs ((k + 1 : Nat) : Int) = depI ts bs k
    · exact ⟨j, hj, by rw [c, e]⟩
    · refine ⟨((k + 1 : Nat) : Int), ?_, rfl⟩
      unfold stI
      refine List.mem_cons_of_mem _ (List.mem_filter.mpr ⟨mem_rngI.mpr (by omega), ?_⟩)
      rw [decide_eq_true_eq, show ((k + 1 : Nat) : Int) - 1 = k by omega]
      exact c
theorem nn_iff {ts bs : List Int} (h : Good ts bs) : faultF (stairsL ts bs) = none ↔ NN ts bs := by
  rw [faultF_none]
  unfold stairsL
  constructor
  · intro hs i h0 h1
    obtain ⟨j, hj, e⟩ := dep_at h i.toNat (by omega)
    rw [Int.toNat_of_nonneg h0] at e
    rw [e]
    exact hs _ (List.mem_map.mpr ⟨j, hj, rfl⟩)
  · intro hs s hs'
    obtain ⟨j, hj, rfl⟩ := List.mem_map.mp hs'
    obtain ⟨a, b⟩ := stI_mem h hj
    exact hs j a b
theorem minD_iff {ts bs : List Int} : 0 ≤ minD ts bs ↔ faultF (stairsL ts bs) = none := by
  rw [faultF_none]
  unfold minD
  constructor
  · intro h s hs
    have := minL_le (List.mem_map.mpr ⟨s, hs, rfl⟩ : s.2 ∈ (stairsL ts bs).map (·.2))
    omega
  · intro h
    obtain ⟨s, hs, e⟩ := List.mem_map.mp (minL_mem (stairs_ne ts bs))
    rw [← e]; exact h s hs
theorem whole_iff {ts bs : List Int} : wholeB ts bs = true ↔ faultF (stairsL ts bs) = none ∧ bs.sum ≤ ts.sum := by
  unfold wholeB faultD
  cases hf : faultF (stairsL ts bs) with
  | some f => simp [stairT]
  | none =>
    by_cases hx : ts.sum - bs.sum < 0
    · rw [if_pos hx]; simp; omega
    · rw [if_neg hx]; simp; omega
theorem frac_floor {m r q C : Int} (hm : 1 ≤ m) (hd : m ∣ C) (hC : 1 ≤ C) (hq : 1 ≤ q) : m * r / q = m * (r * C / q) / C := by
  obtain ⟨c, rfl⟩ := hd
  have c1 : 1 ≤ c := by
    refine Classical.byContradiction fun z => ?_
    have := Int.mul_le_mul_of_nonneg_left (show c ≤ 0 by omega) (show 0 ≤ m by omega)
    omega
  rw [Int.mul_ediv_mul_of_pos _ _ (by omega : 0 < m), Int.ediv_ediv_of_nonneg (by omega : 0 ≤ q), show r * (m * c) = m * r * c by rw [Int.mul_comm m r, Int.mul_assoc], Int.mul_ediv_mul_of_pos_left _ _ (by omega : 0 < c)]
theorem floors_frac {ms : List Int} {r q C : Int} (h : ∀ m ∈ ms, 1 ≤ m ∧ m ∣ C) (hC : 1 ≤ C) (hq : 1 ≤ q) : floors ms r q = floors ms (r * C / q) C := by
  unfold floors
  congr 1
  apply List.map_congr_left
  intro m hm
  exact frac_floor (h m hm).1 (h m hm).2 hC hq
theorem floors_mod {n q : Int} (hq : 1 ≤ q) : ∀ ms : List Int, floors ms n q = floors ms (n % q) q + (n / q) * ms.sum
  | [] => by simp [floors]
  | m :: ms => by
    have ih := floors_mod (n := n) hq ms
    unfold floors at ih ⊢
    rw [List.map_cons, List.sum_cons, List.map_cons, List.sum_cons, ih, List.sum_cons, Int.mul_add]
    have e : m * n / q = m * (n % q) / q + n / q * m := by
      have h1 := Int.mul_ediv_add_emod n q
      conv => lhs; rw [← h1, Int.mul_add, Int.add_comm, show m * (q * (n / q)) = (n / q * m) * q by rw [Int.mul_comm q, ← Int.mul_assoc, Int.mul_comm m]]
      rw [Int.add_mul_ediv_right _ _ (by omega)]
    omega
theorem dvd_all {ts bs : List Int} (h : Good ts bs) : (∀ m ∈ ts, 1 ≤ m ∧ m ∣ multI (ts ++ bs)) ∧ ∀ m ∈ bs, 1 ≤ m ∧ m ∣ multI (ts ++ bs) :=
  ⟨fun m hm => ⟨h.pos m (List.mem_append_left _ hm), multI_dvd h.pos (List.mem_append_left _ hm)⟩, fun m hm => ⟨h.pos m (List.mem_append_right _ hm), multI_dvd h.pos (List.mem_append_right _ hm)⟩⟩
theorem term_eq {ts bs : List Int} (h : Good ts bs) {n q : Int} (hq : 1 ≤ q) : floors ts n q - floors bs n q = (n / q) * (ts.sum - bs.sum) + depI ts bs ((n % q) * multI (ts ++ bs) / q) := by
  obtain ⟨h1, h2⟩ := dvd_all h
  rw [floors_mod hq ts, floors_mod hq bs, floors_frac h1 h.C1 hq, floors_frac h2 h.C1 hq, Int.mul_sub]
  unfold depI
  omega
theorem frac_range {n q C : Int} (hq : 1 ≤ q) (hC : 1 ≤ C) : 0 ≤ (n % q) * C / q ∧ (n % q) * C / q < C := by
  have h0 := Int.emod_nonneg n (show q ≠ 0 by omega)
  have h1 := Int.emod_lt_of_pos n (show 0 < q by omega)
  refine ⟨Int.ediv_nonneg (Int.mul_nonneg h0 (by omega)) (by omega), Int.ediv_lt_of_lt_mul (by omega) ?_⟩
  rw [Int.mul_comm C]
  exact Int.mul_lt_mul_of_pos_right h1 (by omega)
theorem landau {ts bs : List Int} (h : Good ts bs) (nn : NN ts bs) (hs : bs.sum ≤ ts.sum) {n q : Int} (hn : 0 ≤ n) (hq : 1 ≤ q) : 0 ≤ floors ts n q - floors bs n q := by
  rw [term_eq h hq]
  obtain ⟨a, b⟩ := frac_range (n := n) hq h.C1
  have := nn _ a b
  have := Int.mul_nonneg (Int.ediv_nonneg hn (show 0 ≤ q by omega)) (show 0 ≤ ts.sum - bs.sum by omega)
  omega
theorem expoF_nonneg {ts bs : List Int} (h : Good ts bs) (nn : NN ts bs) (hs : bs.sum ≤ ts.sum) {p n most : Int} (hp : 2 ≤ p) (hn : 0 ≤ n) : ∀ (f : Nat) (q : Int), 1 ≤ q → 0 ≤ expoF ts bs p n most f q
  | 0, q, _ => by unfold expoF; omega
  | f + 1, q, hq => by
    unfold expoF
    have := landau h nn hs hn hq
    have := expoF_nonneg (most := most) h nn hs hp hn f (q * p) (by have := Int.mul_le_mul_of_nonneg_left hp (show 0 ≤ q by omega); omega)
    split <;> omega
theorem expo_nonneg {ts bs : List Int} (h : Good ts bs) (hw : wholeB ts bs = true) {p n : Int} (hp : 2 ≤ p) (hn : 0 ≤ n) : 0 ≤ expo ts bs p n := by
  obtain ⟨a, b⟩ := whole_iff.mp hw
  exact expoF_nonneg h ((nn_iff h).mp a) b hp hn _ _ (by omega)
theorem expo_zero {ts bs : List Int} {p : Int} (hp : 2 ≤ p) : expo ts bs p 0 = 0 := by
  unfold expo expoF
  rw [Int.mul_zero, if_neg (by omega)]
/-! ### a row and its exchange are not both whole -/
theorem multI_comm {ts bs : List Int} (h : ∀ m ∈ ts ++ bs, 1 ≤ m) : multI (bs ++ ts) = multI (ts ++ bs) := by
  have h' : ∀ m ∈ bs ++ ts, 1 ≤ m := fun m hm => h m (by rw [List.mem_append] at hm ⊢; exact hm.symm)
  have d1 : multI (bs ++ ts) ∣ multI (ts ++ bs) := multI_least h' fun m hm => multI_dvd h (by rw [List.mem_append] at hm ⊢; exact hm.symm)
  have d2 : multI (ts ++ bs) ∣ multI (bs ++ ts) := multI_least h fun m hm => multI_dvd h' (by rw [List.mem_append] at hm ⊢; exact hm.symm)
  have := multI_pos h
  have := multI_pos h'
  have := Int.le_of_dvd (by omega) d1
  have := Int.le_of_dvd (by omega) d2
  omega
theorem Good.swap {ts bs : List Int} (h : Good ts bs) : Good bs ts := by
  refine ⟨⟨fun m hm => h.1.1 m (by rw [List.mem_append] at hm ⊢; exact hm.symm), h.1.2.2.1, h.1.2.1, fun z => ?_⟩, by rw [multI_comm h.pos]; exact h.2⟩
  obtain ⟨a, b⟩ := List.append_eq_nil_iff.mp z
  exact h.1.2.2.2 (by rw [a, b]; rfl)
theorem RowOk.swap {ts bs : List Int} (h : RowOk ts bs) : RowOk bs ts := ⟨h.2.1, h.1, fun m hm z => h.2.2.1 m z hm, h.2.2.2.swap⟩
theorem divs_none {ms : List Int} {d : Int} (hd : 1 ≤ d) (h : ∀ m ∈ ms, 1 ≤ m ∧ m < d) : divs ms d = 0 := by
  unfold divs
  induction ms with
  | nil => rfl
  | cons m ms ih =>
    have h1 := h m List.mem_cons_self
    rw [List.map_cons, List.sum_cons, ih fun k hk => h k (List.mem_cons_of_mem _ hk), if_neg]
    · rfl
    · rw [Int.emod_eq_of_lt (by omega) (by omega)]; omega
theorem divs_some {d : Int} : ∀ {ms : List Int}, d ∈ ms → 1 ≤ divs ms d
  | m :: ms, h => by
    have nn : ∀ l : List Int, 0 ≤ divs l d := fun l => by
      unfold divs
      induction l with
      | nil => exact Int.le_refl _
      | cons x l ih => rw [List.map_cons, List.sum_cons]; split <;> omega
    have h1 := nn ms
    unfold divs at h1 ⊢
    rw [List.map_cons, List.sum_cons]
    rcases List.mem_cons.mp h with rfl | h
    · rw [if_pos (Int.emod_self)]; omega
    · have := divs_some h
      unfold divs at this
      split <;> omega
theorem sum_ge_len : ∀ {ms : List Int}, (∀ m ∈ ms, 1 ≤ m) → (ms.length : Int) ≤ ms.sum
  | [], _ => by simp
  | m :: ms, h => by
    have h1 := h m List.mem_cons_self
    have h2 := sum_ge_len fun k hk => h k (List.mem_cons_of_mem _ hk)
    rw [List.sum_cons, List.length_cons]; omega
/-- the greatest member's own place is a jump -/
theorem not_both_at {ts bs : List Int} (h : Good ts bs) (dj : ∀ m ∈ ts, m ∉ bs) (hM : maxL (ts ++ bs) ∈ ts) (eq : ∀ i, 0 ≤ i → i < multI (ts ++ bs) → depI ts bs i = 0) (hs : ts.sum = bs.sum) : False := by
  have hge : ∀ m ∈ ts ++ bs, 1 ≤ m ∧ m ≤ maxL (ts ++ bs) := fun m hm => ⟨h.pos m hm, maxL_ge hm⟩
  have hM1 := h.pos _ (List.mem_append_left _ hM)
  generalize maxL (ts ++ bs) = M at hM hge hM1
  have nb : M ∉ bs := dj M hM
  have hb : ∀ m ∈ bs, 1 ≤ m ∧ m < M := fun m hm => by
    have := hge m (List.mem_append_right _ hm)
    have ne : m ≠ M := fun e => nb (e ▸ hm)
    omega
  by_cases c : M = 1
  · have be : bs = [] := by
      cases bs with
      | nil => rfl
      | cons b r => have := hb b List.mem_cons_self; omega
    have h1 := sum_ge_len fun m hm => h.pos m (List.mem_append_left _ hm)
    have h2 := List.length_pos_of_mem hM
    rw [be] at hs
    simp at hs
    omega
  · have hC := h.C1
    obtain ⟨k, hk⟩ := multI_dvd h.pos (List.mem_append_left bs hM)
    have k1 : 1 ≤ k := by
      refine Classical.byContradiction fun z => ?_
      have := Int.mul_le_mul_of_nonneg_left (show k ≤ 0 by omega) (show 0 ≤ M by omega)
      omega
    have hlow : lowP k (multI (ts ++ bs)) = (1, M) := by
      rw [hk]
      have := lowP_scale (a := 1) (q := M) k1
      rw [Int.one_mul] at this
      rw [this, low_one hM1]
    have hkC : k < multI (ts ++ bs) := by
      rw [hk]
      have := Int.mul_le_mul_of_nonneg_right (show 2 ≤ M by omega) (show 0 ≤ k by omega)
      omega
    have e1 := eq k (by omega) hkC
    have e2 := eq (k - 1) (by omega) (by omega)
    have e3 := dep_step h.pos k
    rw [hlow] at e3
    have e4 := divs_some hM
    have e5 := divs_none hM1 hb
    have e3 : depI ts bs k = depI ts bs (k - 1) + (divs ts M - divs bs M) := e3
    omega
theorem not_both {ts bs : List Int} (h : RowOk ts bs) (h1 : wholeB ts bs = true) : wholeB bs ts = false := by
  cases h2 : wholeB bs ts with
  | false => rfl
  | true =>
    have hg := h.2.2.2
    obtain ⟨a1, b1⟩ := whole_iff.mp h1
    obtain ⟨a2, b2⟩ := whole_iff.mp h2
    have n1 := (nn_iff hg).mp a1
    have n2 := (nn_iff hg.swap).mp a2
    have ec := multI_comm hg.pos
    have eq : ∀ i, 0 ≤ i → i < multI (ts ++ bs) → depI ts bs i = 0 := fun i h0 h1 => by
      have x := n1 i h0 h1
      have y := n2 i h0 (by rw [ec]; exact h1)
      unfold depI at x y ⊢
      rw [ec] at y
      omega
    have eq' : ∀ i, 0 ≤ i → i < multI (bs ++ ts) → depI bs ts i = 0 := fun i h0 h1 => by
      have := eq i h0 (by rw [← ec]; exact h1)
      unfold depI at this ⊢
      rw [ec]
      omega
    have hs : ts.sum = bs.sum := by omega
    have hmem := maxL_mem hg.1.2.2.2
    rcases List.mem_append.mp hmem with hm | hm
    · exact (not_both_at hg h.2.2.1 hm eq hs).elim
    · have em : maxL (bs ++ ts) = maxL (ts ++ bs) := by
        have x := maxL_mem hg.swap.1.2.2.2
        have y := maxL_ge (ns := ts ++ bs) (y := maxL (bs ++ ts)) (by rw [List.mem_append] at x ⊢; exact x.symm)
        have z := maxL_ge (ns := bs ++ ts) (y := maxL (ts ++ bs)) (by rw [List.mem_append] at hmem ⊢; exact hmem.symm)
        omega
      exact (not_both_at hg.swap h.swap.2.2.1 (by rw [em]; exact hm) eq' hs.symm).elim
end DL

namespace DL
open PySem PySem.Spec PyProof.Rows L2
/-! ### exponents of primes make the numbers -/
def posP : List (Int × Int) → Int
  | [] => 1
  | x :: r => x.1 ^ x.2.toNat * posP r
def negP : List (Int × Int) → Int
  | [] => 1
  | x :: r => x.1 ^ (-x.2).toNat * negP r
theorem posP_app : ∀ l m : List (Int × Int), posP (l ++ m) = posP l * posP m
  | [], m => by show posP m = 1 * posP m; rw [Int.one_mul]
  | x :: r, m => by
    show x.1 ^ x.2.toNat * posP (r ++ m) = x.1 ^ x.2.toNat * posP r * posP m
    rw [posP_app r m, Int.mul_assoc]
theorem negP_app : ∀ l m : List (Int × Int), negP (l ++ m) = negP l * negP m
  | [], m => by show negP m = 1 * negP m; rw [Int.one_mul]
  | x :: r, m => by
    show x.1 ^ (-x.2).toNat * negP (r ++ m) = x.1 ^ (-x.2).toNat * negP r * negP m
    rw [negP_app r m, Int.mul_assoc]
theorem cop_prime {p q : Int} (hp : prB p = true) (hq : prB q = true) (h : p ≠ q) : Nat.Coprime p.natAbs q.natAbs := by
  obtain ⟨p2, pd⟩ := prB_iff.mp hp
  obtain ⟨q2, qd⟩ := prB_iff.mp hq
  have d1 : gcdI p q ∣ p := gcdI_dvd_l p q
  have d2 : gcdI p q ∣ q := gcdI_dvd_r p q
  have g1 : 1 ≤ gcdI p q := gcdI_pos (by omega)
  have l1 := Int.le_of_dvd (by omega) d1
  have l2 := Int.le_of_dvd (by omega) d2
  have z : gcdI p q = 1 := by
    refine Classical.byContradiction fun z => ?_
    have a : gcdI p q = p := Classical.byContradiction fun n => pd _ (by omega) (by omega) (Int.emod_eq_zero_of_dvd d1)
    have b : gcdI p q = q := Classical.byContradiction fun n => qd _ (by omega) (by omega) (Int.emod_eq_zero_of_dvd d2)
    exact h (a.symm.trans b)
  unfold gcdI at z
  show Nat.gcd _ _ = 1
  omega
theorem cop_pow {p q : Int} (hp : prB p = true) (hq : prB q = true) (h : p ≠ q) (a b : Nat) : Nat.Coprime (p ^ a).natAbs (q ^ b).natAbs := by
  rw [Int.natAbs_pow, Int.natAbs_pow]
  exact Nat.Coprime.pow _ _ (cop_prime hp hq h)
theorem cop_pos {p : Int} (hp : prB p = true) (k : Nat) : ∀ {l : List (Int × Int)}, (∀ x ∈ l, prB x.1 = true ∧ p ≠ x.1) → Nat.Coprime (p ^ k).natAbs (posP l).natAbs
  | [], _ => Nat.gcd_one_right _
  | x :: r, h => by
    obtain ⟨a, b⟩ := h x List.mem_cons_self
    show Nat.Coprime _ (x.1 ^ x.2.toNat * posP r).natAbs
    rw [Int.natAbs_mul]
    exact Nat.Coprime.mul_right (cop_pow hp a b _ _) (cop_pos hp k fun y hy => h y (List.mem_cons_of_mem _ hy))
theorem cop_neg {p : Int} (hp : prB p = true) (k : Nat) : ∀ {l : List (Int × Int)}, (∀ x ∈ l, prB x.1 = true ∧ p ≠ x.1) → Nat.Coprime (p ^ k).natAbs (negP l).natAbs
  | [], _ => Nat.gcd_one_right _
  | x :: r, h => by
    obtain ⟨a, b⟩ := h x List.mem_cons_self
    show Nat.Coprime _ (x.1 ^ (-x.2).toNat * negP r).natAbs
    rw [Int.natAbs_mul]
    exact Nat.Coprime.mul_right (cop_pow hp a b _ _) (cop_neg hp k fun y hy => h y (List.mem_cons_of_mem _ hy))
/-- distinct primes -/
def PrK (l : List (Int × Int)) : Prop := (l.map (·.1)).Nodup ∧ ∀ x ∈ l, prB x.1 = true
theorem cop_pn : ∀ {l : List (Int × Int)}, PrK l → Nat.Coprime (posP l).natAbs (negP l).natAbs
  | [], _ => by decide
  | x :: r, h => by
    obtain ⟨nd, pr⟩ := h
    rw [List.map_cons, List.nodup_cons] at nd
    have hx := pr x List.mem_cons_self
    have hr : ∀ y ∈ r, prB y.1 = true ∧ x.1 ≠ y.1 := fun y hy => ⟨pr y (List.mem_cons_of_mem _ hy), fun e => nd.1 (e ▸ List.mem_map.mpr ⟨y, hy, rfl⟩)⟩
    have ih := cop_pn (l := r) ⟨nd.2, fun y hy => (hr y hy).1⟩
    have c1 := cop_neg hx x.2.toNat hr
    have c2 := cop_pos hx (-x.2).toNat hr
    show Nat.Coprime (x.1 ^ x.2.toNat * posP r).natAbs (x.1 ^ (-x.2).toNat * negP r).natAbs
    rw [Int.natAbs_mul, Int.natAbs_mul]
    refine Nat.Coprime.mul_left (Nat.Coprime.mul_right ?_ c1) (Nat.Coprime.mul_right c2.symm ih)
    by_cases e : 0 < x.2
    · rw [show (-x.2).toNat = 0 by omega, Int.pow_zero]
      exact Nat.gcd_one_right _
    · rw [show x.2.toNat = 0 by omega, Int.pow_zero]
      exact Nat.gcd_one_left _
theorem gcd_pn {l : List (Int × Int)} (h : PrK l) : gcdI (posP l) (negP l) = 1 := by
  have := cop_pn h
  unfold gcdI
  rw [show Nat.gcd (posP l).natAbs (negP l).natAbs = 1 from this]; rfl
theorem low_pn {l : List (Int × Int)} (h : PrK l) : lowP (posP l) (negP l) = (posP l, negP l) := by
  unfold lowP
  rw [gcd_pn h, Int.ediv_one, Int.ediv_one]
theorem pow_ge1 {p : Int} (hp : 1 ≤ p) (k : Nat) : 1 ≤ p ^ k := by
  have : 0 < p ^ k := Int.pow_pos (by omega)
  omega
theorem pr_ge {p : Int} (h : prB p = true) : 2 ≤ p := (prB_iff.mp h).1
theorem posP_ge : ∀ {l : List (Int × Int)}, (∀ x ∈ l, prB x.1 = true) → 1 ≤ posP l
  | [], _ => Int.le_refl _
  | x :: r, h => by
    have h1 := pow_ge1 (show 1 ≤ x.1 by have := pr_ge (h x List.mem_cons_self); omega) x.2.toNat
    have h2 := posP_ge (l := r) fun y hy => h y (List.mem_cons_of_mem _ hy)
    have : 0 < x.1 ^ x.2.toNat * posP r := Int.mul_pos (by omega) (by omega)
    show 1 ≤ x.1 ^ x.2.toNat * posP r
    omega
theorem negP_ge : ∀ {l : List (Int × Int)}, (∀ x ∈ l, prB x.1 = true) → 1 ≤ negP l
  | [], _ => Int.le_refl _
  | x :: r, h => by
    have h1 := pow_ge1 (show 1 ≤ x.1 by have := pr_ge (h x List.mem_cons_self); omega) (-x.2).toNat
    have h2 := negP_ge (l := r) fun y hy => h y (List.mem_cons_of_mem _ hy)
    have : 0 < x.1 ^ (-x.2).toNat * negP r := Int.mul_pos (by omega) (by omega)
    show 1 ≤ x.1 ^ (-x.2).toNat * negP r
    omega
/-! products over primes -/
def prodE (e : Int → Nat) : List Int → Int
  | [] => 1
  | p :: r => p ^ e p * prodE e r
theorem prodE_mul (e1 e2 : Int → Nat) : ∀ ps : List Int, prodE e1 ps * prodE e2 ps = prodE (fun p => e1 p + e2 p) ps
  | [] => rfl
  | p :: r => by
    show p ^ e1 p * prodE e1 r * (p ^ e2 p * prodE e2 r) = p ^ (e1 p + e2 p) * prodE (fun p => e1 p + e2 p) r
    rw [← prodE_mul e1 e2 r, Int.pow_add, Int.mul_assoc, Int.mul_assoc]
    congr 1
    rw [Int.mul_left_comm]
theorem prodE_congr {e1 e2 : Int → Nat} : ∀ {ps : List Int}, (∀ p ∈ ps, e1 p = e2 p) → prodE e1 ps = prodE e2 ps
  | [], _ => rfl
  | p :: r, h => by
    show p ^ e1 p * prodE e1 r = p ^ e2 p * prodE e2 r
    rw [h p List.mem_cons_self, prodE_congr fun q hq => h q (List.mem_cons_of_mem _ hq)]
theorem prodE_app (e : Int → Nat) : ∀ ps qs : List Int, prodE e (ps ++ qs) = prodE e ps * prodE e qs
  | [], qs => by show prodE e qs = 1 * prodE e qs; rw [Int.one_mul]
  | p :: r, qs => by
    show p ^ e p * prodE e (r ++ qs) = p ^ e p * prodE e r * prodE e qs
    rw [prodE_app e r qs, Int.mul_assoc]
theorem prodE_one {e : Int → Nat} : ∀ {ps : List Int}, (∀ p ∈ ps, e p = 0) → prodE e ps = 1
  | [], _ => rfl
  | p :: r, h => by
    show p ^ e p * prodE e r = 1
    rw [h p List.mem_cons_self, prodE_one fun q hq => h q (List.mem_cons_of_mem _ hq), Int.pow_zero]
    rfl
theorem prodE_ge {e : Int → Nat} : ∀ {ps : List Int}, (∀ p ∈ ps, 2 ≤ p) → 1 ≤ prodE e ps
  | [], _ => Int.le_refl _
  | p :: r, h => by
    have h1 := pow_ge1 (show 1 ≤ p by have := h p List.mem_cons_self; omega) (e p)
    have h2 := prodE_ge (e := e) (ps := r) fun y hy => h y (List.mem_cons_of_mem _ hy)
    have : 0 < p ^ e p * prodE e r := Int.mul_pos (by omega) (by omega)
    show 1 ≤ p ^ e p * prodE e r
    omega
theorem mul_one_inv {a b : Int} (ha : 1 ≤ a) (hb : 1 ≤ b) (h : a * b = 1) : a = 1 ∧ b = 1 := by
  have h1 : a * 1 ≤ a * b := Int.mul_le_mul_of_nonneg_left hb (by omega)
  have h2 : 1 * b ≤ a * b := Int.mul_le_mul_of_nonneg_right ha (by omega)
  omega
theorem prodE_inv {e : Int → Nat} : ∀ {ps : List Int}, (∀ p ∈ ps, 2 ≤ p) → prodE e ps = 1 → ∀ p ∈ ps, e p = 0
  | [], _, _, p, hp => by cases hp
  | q :: r, h, h1, p, hp => by
    have q2 := h q List.mem_cons_self
    obtain ⟨a, b⟩ := mul_one_inv (pow_ge1 (show 1 ≤ q by omega) (e q)) (prodE_ge (e := e) fun y hy => h y (List.mem_cons_of_mem _ hy)) h1
    rcases List.mem_cons.mp hp with rfl | hp
    · cases k : e p with
      | zero => rfl
      | succ k' =>
        rw [k, Int.pow_succ] at a
        have g := pow_ge1 (show 1 ≤ p by omega) k'
        have : 1 * p ≤ p ^ k' * p := Int.mul_le_mul_of_nonneg_right g (by omega)
        omega
    · exact prodE_inv (fun y hy => h y (List.mem_cons_of_mem _ hy)) b p hp
/-! Legendre -/
def lgF (k p : Int) : Nat → Int → Int
  | 0, _ => 0
  | f + 1, q => if q ≤ k then k / q + lgF k p f (q * p) else 0
def lg (k p : Int) : Int := lgF k p 110 p
theorem lgF_zero {k p : Int} {f : Nat} {q : Int} (h : k < q) : lgF k p f q = 0 := by
  cases f with
  | zero => rfl
  | succ f => unfold lgF; rw [if_neg (by omega)]
theorem le_mulp {q p : Int} (hq : 1 ≤ q) (hp : 1 ≤ p) : q ≤ q * p := by
  have : q * 1 ≤ q * p := Int.mul_le_mul_of_nonneg_left hp (by omega)
  omega
theorem lgF_succ {k p : Int} {f : Nat} {q : Int} (h0 : 0 ≤ k) (hq : 1 ≤ q) (hp : 1 ≤ p) : lgF k p (f + 1) q = k / q + lgF k p f (q * p) := by
  by_cases h : q ≤ k
  · conv => lhs; unfold lgF
    rw [if_pos h]
  · have := le_mulp hq hp
    rw [lgF_zero (by omega), lgF_zero (by omega), Int.ediv_eq_zero_of_lt h0 (by omega)]; rfl
theorem lgF_nonneg {k p : Int} (h0 : 0 ≤ k) (hp : 1 ≤ p) : ∀ {f : Nat} {q : Int}, 1 ≤ q → 0 ≤ lgF k p f q
  | 0, q, _ => Int.le_refl _
  | f + 1, q, hq => by
    rw [lgF_succ h0 hq hp]
    have := lgF_nonneg (f := f) h0 hp (q := q * p) (by have := le_mulp hq hp; omega)
    have := Int.ediv_nonneg h0 (show 0 ≤ q by omega)
    omega
theorem sumlg_succ {n p : Int} {f : Nat} {q : Int} (hq : 1 ≤ q) (hp : 1 ≤ p) : ∀ {ms : List Int}, (∀ m ∈ ms, 0 ≤ m * n) → (ms.map fun m => lgF (m * n) p (f + 1) q).sum = floors ms n q + (ms.map fun m => lgF (m * n) p f (q * p)).sum
  | [], _ => rfl
  | m :: ms, h => by
    have ih := sumlg_succ (f := f) hq hp (ms := ms) fun k hk => h k (List.mem_cons_of_mem _ hk)
    unfold floors at ih ⊢
    simp only [List.map_cons, List.sum_cons]
    rw [ih, lgF_succ (h m List.mem_cons_self) hq hp]
    omega
theorem sumlg_zero {n p : Int} {f : Nat} {q : Int} : ∀ {ms : List Int}, (∀ m ∈ ms, m * n < q) → (ms.map fun m => lgF (m * n) p f q).sum = 0
  | [], _ => rfl
  | m :: ms, h => by
    simp only [List.map_cons, List.sum_cons]
    rw [sumlg_zero (ms := ms) fun k hk => h k (List.mem_cons_of_mem _ hk), lgF_zero (h m List.mem_cons_self)]; rfl
theorem expoF_lg {ts bs : List Int} {p n most : Int} (hp : 1 ≤ p) (h : ∀ m ∈ ts ++ bs, 0 ≤ m * n ∧ m * n ≤ most) : ∀ (f : Nat) (q : Int), 1 ≤ q →
    expoF ts bs p n most f q = (ts.map fun m => lgF (m * n) p f q).sum - (bs.map fun m => lgF (m * n) p f q).sum
  | 0, q, hq => by
    have z : ∀ ms : List Int, (ms.map fun m => lgF (m * n) p 0 q).sum = 0 := fun ms => by
      induction ms with
      | nil => rfl
      | cons m ms ih => rw [List.map_cons, List.sum_cons, ih]; rfl
    rw [z, z]; rfl
  | f + 1, q, hq => by
    have ht : ∀ m ∈ ts, 0 ≤ m * n ∧ m * n ≤ most := fun m hm => h m (List.mem_append_left _ hm)
    have hb : ∀ m ∈ bs, 0 ≤ m * n ∧ m * n ≤ most := fun m hm => h m (List.mem_append_right _ hm)
    unfold expoF
    by_cases c : q ≤ most
    · rw [if_pos c, expoF_lg hp h f (q * p) (by have := le_mulp hq hp; omega), sumlg_succ hq hp fun m hm => (ht m hm).1, sumlg_succ hq hp fun m hm => (hb m hm).1]
      omega
    · rw [if_neg c, sumlg_zero fun m hm => by have := ht m hm; omega, sumlg_zero fun m hm => by have := hb m hm; omega]; rfl
/-! the factorials up to 120 -/
def pr120 : List Int := [2, 3, 5, 7, 11, 13, 17, 19, 23, 29, 31, 37, 41, 43, 47, 53, 59, 61, 67, 71, 73, 79, 83, 89, 97, 101, 103, 107, 109, 113]
theorem pr120_eq : prs 120 = pr120 := by decide +kernel
theorem fact_tab : ((List.range 121).all fun k => decide (factI k = prodE (fun p => (lg k p).toNat) pr120)) = true := by decide +kernel
theorem fact_pr {k : Nat} (h : k ≤ 120) : factI k = prodE (fun p => (lg k p).toNat) pr120 := of_decide_eq_true (List.all_eq_true.mp fact_tab k (List.mem_range.mpr (by omega)))
end DL

namespace DL
open PySem PySem.Spec PyProof.Rows L2
def sumL (ms : List Int) (n p : Int) : Nat := (ms.map fun m => (lg (m * n) p).toNat).sum
theorem sumL_cons (m : Int) (ms : List Int) (n p : Int) : sumL (m :: ms) n p = (lg (m * n) p).toNat + sumL ms n p := by
  unfold sumL
  rw [List.map_cons, List.sum_cons]
theorem prodF_pr (n : Nat) : ∀ (ms : List Int) (f : Int), (∀ m ∈ ms, 0 ≤ m * n ∧ m * n ≤ 120) → ms.foldl (fun f m => f * factI (m * (n : Int)).toNat) f = f * prodE (sumL ms n) pr120
  | [], f, _ => by
    rw [prodE_one (e := sumL [] n) fun _ _ => rfl, Int.mul_one]; rfl
  | m :: ms, f, h => by
    obtain ⟨a, b⟩ := h m List.mem_cons_self
    have ef := fact_pr (k := (m * (n : Int)).toNat) (by omega)
    have ih := prodF_pr n ms (f * factI (m * (n : Int)).toNat) fun k hk => h k (List.mem_cons_of_mem _ hk)
    rw [Int.toNat_of_nonneg a] at ef
    have e2 : prodE (fun p => (lg (m * (n : Int)) p).toNat) pr120 * prodE (sumL ms n) pr120 = prodE (sumL (m :: ms) n) pr120 := by
      rw [prodE_mul]
      exact prodE_congr fun p _ => (sumL_cons m ms n p).symm
    rw [List.foldl_cons, ih, Int.mul_assoc, ef, e2]
theorem sumL_cast {n p : Int} (hp : 1 ≤ p) : ∀ {ms : List Int}, (∀ m ∈ ms, 0 ≤ m * n) → (ms.map fun m => lgF (m * n) p 110 p).sum = (sumL ms n p : Nat)
  | [], _ => rfl
  | m :: ms, h => by
    have ih := sumL_cast (ms := ms) hp fun k hk => h k (List.mem_cons_of_mem _ hk)
    unfold sumL at ih ⊢
    rw [List.map_cons, List.sum_cons, ih, List.map_cons, List.sum_cons]
    have : 0 ≤ lg (m * n) p := lgF_nonneg (h m List.mem_cons_self) hp hp
    unfold lg at this ⊢
    omega
theorem expo_sum {ts bs : List Int} {p : Int} {n : Nat} (h : Small ts bs) (hp : 1 ≤ p) : expo ts bs p n = (sumL ts n p : Int) - sumL bs n p := by
  have hb : ∀ m ∈ ts ++ bs, 0 ≤ m * (n : Int) ∧ m * (n : Int) ≤ maxL (ts ++ bs) * n := fun m hm => by
    have h1 := h.1 m hm
    exact ⟨Int.mul_nonneg (by omega) (by omega), Int.mul_le_mul_of_nonneg_right (maxL_ge hm) (by omega)⟩
  unfold expo
  rw [expoF_lg hp hb 110 p hp, sumL_cast hp fun m hm => (hb m (List.mem_append_left _ hm)).1, sumL_cast hp fun m hm => (hb m (List.mem_append_right _ hm)).1]
theorem rngI_app (lo : Int) (a : Nat) : ∀ b : Nat, rngI lo (a + b) = rngI lo a ++ rngI (lo + a) b
  | 0 => by show rngI lo a = rngI lo a ++ []; rw [List.append_nil]
  | b + 1 => by
    rw [show a + (b + 1) = (a + b) + 1 by omega, rngI_succ', rngI_app lo a b, rngI_succ', List.append_assoc]
    congr 3
    omega
theorem prs_split {k : Int} (h : k ≤ 120) : ∃ rest, prs 120 = prs k ++ rest ∧ ∀ p ∈ rest, k < p := by
  refine ⟨(rngI (2 + (k - 1).toNat) (119 - (k - 1).toNat)).filter prB, ?_, fun p hp => ?_⟩
  · unfold prs
    rw [← List.filter_append, ← rngI_app]
    congr 2
    omega
  · have := mem_rngI.mp (List.mem_filter.mp hp).1
    omega
theorem expo_beyond {ts bs : List Int} {p n : Int} (h : maxL (ts ++ bs) * n < p) : expo ts bs p n = 0 := by
  unfold expo expoF
  rw [if_neg (by omega)]
theorem posP_filter : ∀ l : List (Int × Int), posP (l.filter fun q => decide (q.2 ≠ 0)) = posP l
  | [] => rfl
  | x :: r => by
    rw [List.filter_cons]
    by_cases e : x.2 = 0
    · rw [if_neg (by simpa using e), posP_filter r]
      show posP r = x.1 ^ x.2.toNat * posP r
      rw [e, Int.toNat_zero, Int.pow_zero, Int.one_mul]
    · rw [if_pos (by simpa using e)]
      show x.1 ^ x.2.toNat * posP (r.filter _) = x.1 ^ x.2.toNat * posP r
      rw [posP_filter r]
theorem negP_filter : ∀ l : List (Int × Int), negP (l.filter fun q => decide (q.2 ≠ 0)) = negP l
  | [] => rfl
  | x :: r => by
    rw [List.filter_cons]
    by_cases e : x.2 = 0
    · rw [if_neg (by simpa using e), negP_filter r]
      show negP r = x.1 ^ (-x.2).toNat * negP r
      rw [e, Int.neg_zero, Int.toNat_zero, Int.pow_zero, Int.one_mul]
    · rw [if_pos (by simpa using e)]
      show x.1 ^ (-x.2).toNat * negP (r.filter _) = x.1 ^ (-x.2).toNat * negP r
      rw [negP_filter r]
theorem posP_map (x : Int → Int) : ∀ ps : List Int, posP (ps.map fun p => (p, x p)) = prodE (fun p => (x p).toNat) ps
  | [] => rfl
  | p :: r => by
    show p ^ (x p).toNat * posP (r.map fun p => (p, x p)) = p ^ (x p).toNat * prodE (fun p => (x p).toNat) r
    rw [posP_map x r]
theorem negP_map (x : Int → Int) : ∀ ps : List Int, negP (ps.map fun p => (p, x p)) = prodE (fun p => (-x p).toNat) ps
  | [] => rfl
  | p :: r => by
    show p ^ (-x p).toNat * negP (r.map fun p => (p, x p)) = p ^ (-x p).toNat * prodE (fun p => (-x p).toNat) r
    rw [negP_map x r]
theorem pos_exp {ts bs : List Int} {n : Int} (hn : maxL (ts ++ bs) * n ≤ 120) : posP (expAt ts bs n) = prodE (fun p => (expo ts bs p n).toNat) pr120 := by
  obtain ⟨rest, e, hr⟩ := prs_split hn
  unfold expAt
  rw [posP_filter, posP_map fun p => expo ts bs p n, ← pr120_eq, e, prodE_app, prodE_one (ps := rest) fun p hp => by rw [expo_beyond (hr p hp)]; rfl, Int.mul_one]
theorem neg_exp0 {ts bs : List Int} {n : Int} : negP (expAt ts bs n) = prodE (fun p => (-expo ts bs p n).toNat) (prs (maxL (ts ++ bs) * n)) := by
  unfold expAt
  rw [negP_filter, negP_map fun p => expo ts bs p n]
theorem neg_exp {ts bs : List Int} {n : Int} (hn : maxL (ts ++ bs) * n ≤ 120) : negP (expAt ts bs n) = prodE (fun p => (-expo ts bs p n).toNat) pr120 := by
  obtain ⟨rest, e, hr⟩ := prs_split hn
  rw [neg_exp0, ← pr120_eq, e, prodE_app, prodE_one (ps := rest) fun p hp => by rw [expo_beyond (hr p hp)]; rfl, Int.mul_one]
theorem cross {ts bs : List Int} {n : Nat} (h : Small ts bs) (hn : maxL (ts ++ bs) * n ≤ 120) : prodF n ts * negP (expAt ts bs n) = prodF n bs * posP (expAt ts bs n) := by
  obtain ⟨k1, k2⟩ := h.le_max hn
  unfold prodF
  rw [prodF_pr n ts 1 fun m hm => ⟨Int.mul_nonneg (by have := k1 m hm; omega) (by omega), (k1 m hm).2.2⟩, prodF_pr n bs 1 fun m hm => ⟨Int.mul_nonneg (by have := k2 m hm; omega) (by omega), (k2 m hm).2.2⟩,
    Int.one_mul, Int.one_mul, pos_exp hn, neg_exp hn, prodE_mul, prodE_mul]
  apply prodE_congr
  intro p hp
  rw [← pr120_eq] at hp
  have p2 := (prs_mem hp).2.1
  have := expo_sum (n := n) h (show 1 ≤ p by omega)
  omega
theorem low_of {A B P N : Int} (hA : 1 ≤ A) (hB : 1 ≤ B) (hP : 1 ≤ P) (hN : 1 ≤ N) (c : gcdI P N = 1) (e : A * N = B * P) : lowP A B = (P, N) ∧ P ≤ A ∧ N ≤ B := by
  have hd : P.natAbs ∣ A.natAbs := by
    have e1 : A.natAbs * N.natAbs = B.natAbs * P.natAbs := by rw [← Int.natAbs_mul, ← Int.natAbs_mul, e]
    have c1 : Nat.Coprime P.natAbs N.natAbs := by
      show Nat.gcd _ _ = 1
      unfold gcdI at c
      omega
    exact Nat.Coprime.dvd_of_dvd_mul_right c1 (e1 ▸ Nat.dvd_mul_left _ _)
  obtain ⟨t, rfl⟩ := Int.natAbs_dvd_natAbs.mp hd
  have t1 : 1 ≤ t := by
    refine Classical.byContradiction fun z => ?_
    have := Int.mul_le_mul_of_nonneg_left (show t ≤ 0 by omega) (show 0 ≤ P by omega)
    omega
  have eB : B = N * t := by
    have : P * (N * t) = P * B := by rw [Int.mul_comm P B, ← e, Int.mul_assoc, Int.mul_comm N t]
    exact (Int.eq_of_mul_eq_mul_left (by omega) this).symm
  subst eB
  refine ⟨?_, le_mulp hP t1, le_mulp hN t1⟩
  rw [lowP_scale t1]
  unfold lowP
  rw [c, Int.ediv_one, Int.ediv_one]
theorem exp_prk (ts bs : List Int) (n : Int) : PrK (expAt ts bs n) := by
  unfold expAt
  refine ⟨?_, fun x hx => ?_⟩
  · have h1 := prs_nodup (maxL (ts ++ bs) * n)
    have e : ((prs (maxL (ts ++ bs) * n)).map fun p => (p, expo ts bs p n)).map (·.1) = prs (maxL (ts ++ bs) * n) := by
      rw [List.map_map]
      conv => rhs; rw [← List.map_id (prs (maxL (ts ++ bs) * n))]
      rfl
    rw [← e] at h1
    exact h1.sublist (List.filter_sublist.map _)
  · obtain ⟨p, hp, rfl⟩ := List.mem_map.mp (List.mem_filter.mp hx).1
    exact (prs_mem hp).1
/-- the number's lowest form is what its exponents make -/
theorem number_low {ts bs : List Int} {n : Nat} (h : Small ts bs) (hn : maxL (ts ++ bs) * n ≤ 120) : lowP (prodF n ts) (prodF n bs) = (posP (expAt ts bs n), negP (expAt ts bs n)) ∧ posP (expAt ts bs n) ≤ prodF n ts ∧ negP (expAt ts bs n) ≤ prodF n bs := by
  have hk := exp_prk ts bs n
  have a := prodF_pos n ts 1 (by decide)
  have b := prodF_pos n bs 1 (by decide)
  exact low_of (show 1 ≤ prodF n ts by unfold prodF; omega) (show 1 ≤ prodF n bs by unfold prodF; omega) (posP_ge hk.2) (negP_ge hk.2) (gcd_pn hk) (cross h hn)
/-- it is an integer if no exponent is below 0 -/
theorem int_iff {ts bs : List Int} {n : Int} : negP (expAt ts bs n) = 1 ↔ brk ts bs n = [] := by
  rw [neg_exp0]
  unfold brk
  have h2 : ∀ p ∈ prs (maxL (ts ++ bs) * n), 2 ≤ p := fun p hp => (prs_mem hp).2.1
  constructor
  · intro h
    have := prodE_inv h2 h
    rw [List.filter_eq_nil_iff]
    intro p hp
    have := this p hp
    rw [decide_eq_true_eq]
    omega
  · intro h
    rw [List.filter_eq_nil_iff] at h
    refine prodE_one fun p hp => ?_
    have := h p hp
    rw [decide_eq_true_eq] at this
    omega
theorem whole_brk {ts bs : List Int} (h : Good ts bs) (hw : wholeB ts bs = true) {n : Int} (hn : 0 ≤ n) : brk ts bs n = [] := by
  unfold brk
  rw [List.filter_eq_nil_iff]
  intro p hp
  have := expo_nonneg h hw (p := p) (n := n) (prs_mem hp).2.1 hn
  rw [decide_eq_true_eq]
  omega
end DL

namespace DL
open PySem PySem.Spec PyProof.Rows L2
/-! ### the witness at a great prime -/
theorem floors_below {n q : Int} : ∀ {ms : List Int}, (∀ m ∈ ms, 0 ≤ m * n ∧ m * n < q) → floors ms n q = 0
  | [], _ => rfl
  | m :: ms, h => by
    obtain ⟨a, b⟩ := h m List.mem_cons_self
    have ih := floors_below (ms := ms) fun k hk => h k (List.mem_cons_of_mem _ hk)
    unfold floors at ih ⊢
    rw [List.map_cons, List.sum_cons, ih, Int.ediv_eq_zero_of_lt a b]; rfl
theorem expo_one {ts bs : List Int} {p n : Int} (h : Small ts bs) (hn : 0 ≤ n) (hb : maxL (ts ++ bs) * n < p * p) : expo ts bs p n = floors ts n p - floors bs n p := by
  have hm : ∀ m ∈ ts ++ bs, 0 ≤ m * n ∧ m * n ≤ maxL (ts ++ bs) * n := fun m hm => by
    have h1 := h.1 m hm
    exact ⟨Int.mul_nonneg (by omega) hn, Int.mul_le_mul_of_nonneg_right (maxL_ge hm) hn⟩
  unfold expo
  rw [show (110 : Nat) = 109 + 1 from rfl]
  unfold expoF
  by_cases c : p ≤ maxL (ts ++ bs) * n
  · rw [if_pos c]
    have z : expoF ts bs p n (maxL (ts ++ bs) * n) 109 (p * p) = 0 := by
      rw [show (109 : Nat) = 108 + 1 from rfl]
      unfold expoF
      rw [if_neg (by omega)]
    rw [z, Int.add_zero]
  · rw [if_neg c, floors_below fun m hm' => by have := hm m (List.mem_append_left _ hm'); omega, floors_below fun m hm' => by have := hm m (List.mem_append_right _ hm'); omega]; rfl
theorem ceil_facts {a b p : Int} (hb : 1 ≤ b) : a * p ≤ b * -(-a * p / b) ∧ b * -(-a * p / b) < a * p + b := by
  have h1 := Int.mul_ediv_add_emod (-a * p) b
  have h2 := Int.emod_nonneg (-a * p) (show b ≠ 0 by omega)
  have h3 := Int.emod_lt_of_pos (-a * p) (show 0 < b by omega)
  have e1 : -a * p = -(a * p) := Int.neg_mul _ _
  have e2 : b * -(-a * p / b) = -(b * (-a * p / b)) := Int.mul_neg _ _
  rw [e2]
  rw [e1] at h1 h2 h3 ⊢
  omega
theorem ceil_floor {m M a b p F : Int} (hm : 1 ≤ m) (mM : m ≤ M) (hb : 1 ≤ b) (bM : b ≤ M) (hp : M * M < p) (f1 : a * p ≤ b * F) (f2 : b * F < a * p + b) : m * F / p = m * a / b := by
  have mb : m * b ≤ M * M := Int.mul_le_mul mM bM (by omega) (by omega)
  have mb1 : 1 ≤ m * b := by
    have := Int.mul_le_mul hm hb (by decide) (by omega)
    omega
  have k1 := Int.mul_ediv_add_emod (m * a) b
  have k2 := Int.emod_nonneg (m * a) (show b ≠ 0 by omega)
  have k3 := Int.emod_lt_of_pos (m * a) (show 0 < b by omega)
  generalize m * a / b = k at k1
  generalize m * a % b = r at k1 k2 k3
  -- b * (k p) <= b * (m F) < b * ((k + 1) p)
  have e1 : b * (k * p) + r * p = m * (a * p) := by
    rw [← Int.mul_assoc, ← Int.add_mul, k1, Int.mul_assoc]
  have g1 : m * (a * p) ≤ m * (b * F) := Int.mul_le_mul_of_nonneg_left f1 (by omega)
  have g2 : m * (b * F) ≤ m * (a * p + b - 1) := Int.mul_le_mul_of_nonneg_left (by omega) (by omega)
  have g3 : m * (a * p + b - 1) = m * (a * p) + m * b - m := by
    rw [Int.mul_sub, Int.mul_add, Int.mul_one]
  have g4 : 0 ≤ r * p := Int.mul_nonneg k2 (by omega)
  have g5 : r * p ≤ (b - 1) * p := Int.mul_le_mul_of_nonneg_right (by omega) (by omega)
  have g6 : (b - 1) * p = b * p - p := by rw [Int.sub_mul, Int.one_mul]
  have e2 : m * (b * F) = b * (m * F) := Int.mul_left_comm _ _ _
  have e3 : b * ((k + 1) * p) = b * (k * p) + b * p := by rw [Int.add_mul, Int.one_mul, Int.mul_add]
  have a1 : b * (k * p) ≤ b * (m * F) := by omega
  have a2 : b * (m * F) < b * ((k + 1) * p) := by omega
  have b1 : k * p ≤ m * F := Int.le_of_mul_le_mul_left a1 (by omega)
  have b2 : m * F < (k + 1) * p := Int.lt_of_mul_lt_mul_left a2 (by omega)
  have c1 : k ≤ m * F / p := (Int.le_ediv_iff_mul_le (by omega)).mpr b1
  have c2 : m * F / p < k + 1 := (Int.ediv_lt_iff_lt_mul (by omega)).mpr b2
  omega
theorem floors_ceil {ms : List Int} {M a b p F : Int} (hms : ∀ m ∈ ms, 1 ≤ m ∧ m ≤ M) (hb : 1 ≤ b) (bM : b ≤ M) (hp : M * M < p) (f1 : a * p ≤ b * F) (f2 : b * F < a * p + b) : floors ms F p = floors ms a b := by
  unfold floors
  congr 1
  apply List.map_congr_left
  intro m hm
  exact ceil_floor (hms m hm).1 (hms m hm).2 hb bM hp f1 f2
theorem stI_den {ts bs : List Int} (h : Good ts bs) {i : Int} (hi : i ∈ stI ts bs) (h0 : i ≠ 0) : (lowP i (multI (ts ++ bs))).2 ≤ maxL (ts ++ bs) := by
  unfold stI at hi
  rcases List.mem_cons.mp hi with e | hi
  · exact absurd e h0
  · have h1 := of_decide_eq_true (List.mem_filter.mp hi).2
    have h2 := dep_step h.pos i
    obtain ⟨m, hm, hd⟩ := jmp_dvd (ts := ts) (bs := bs) (d := (lowP i (multI (ts ++ bs))).2) (by omega)
    have h3 := Int.le_of_dvd (by have := h.pos m hm; omega) hd
    have h4 := maxL_ge hm
    omega
theorem max_facts {ts bs : List Int} (h : Good ts bs) : 1 ≤ maxL (ts ++ bs) ∧ maxL (ts ++ bs) ≤ 60 ∧ maxL (ts ++ bs) ≤ maxL (ts ++ bs) * maxL (ts ++ bs) := by
  have hm := h.1.1 _ (maxL_mem h.1.2.2.2)
  have hq := hm.1
  have : maxL (ts ++ bs) * 1 ≤ maxL (ts ++ bs) * maxL (ts ++ bs) := Int.mul_le_mul_of_nonneg_left hq (by omega)
  exact ⟨hm.1, hm.2, by omega⟩
theorem most_lt {M F p : Int} (hM : 1 ≤ M) (hMp : M < p) (hF : F ≤ p) : M * F < p * p := by
  have h1 : M * F ≤ M * p := Int.mul_le_mul_of_nonneg_left hF (by omega)
  have h2 : M * p < p * p := Int.mul_lt_mul_of_pos_right hMp (by omega)
  omega
/-- the witness of a stair -/
theorem wit_stair {ts bs : List Int} (h : Good ts bs) {f : (Int × Int) × (Int × Int) × Int} (e : faultF (stairsL ts bs) = some f) {p : Int} (hp : maxL (ts ++ bs) * maxL (ts ++ bs) < p) :
    1 ≤ f.1.2 ∧ f.1.2 < 2 ^ 20 ∧ 0 ≤ f.1.1 ∧ f.1.1 < 2 ^ 20 ∧ f.2.2 < 0 ∧ 1 ≤ -(-f.1.1 * p / f.1.2) ∧ -(-f.1.1 * p / f.1.2) ≤ p ∧ expo ts bs p (-(-f.1.1 * p / f.1.2)) = f.2.2 := by
  obtain ⟨i, hi, e1, e2⟩ := fault_place h e
  obtain ⟨_, neg⟩ := faultF_mem e
  obtain ⟨i0, i1⟩ := stI_mem h hi
  have hC := h.C1
  have hC2 := h.2
  obtain ⟨b1, b2, b3, b4⟩ := low_bounds hC hC2 i0 i1
  obtain ⟨m1, m2, m3⟩ := max_facts h
  have hi0 : i ≠ 0 := fun z => by
    subst z
    rw [dep_zero] at e2
    omega
  have hden := stI_den h hi hi0
  obtain ⟨g1, g2, g3⟩ := lowP_mul (i := i) hC
  have hg := gcdI_pos (i := i) hC
  have a1 : 0 < (lowP i (multI (ts ++ bs))).1 := lt_of_mul hg (by omega)
  have a2 : (lowP i (multI (ts ++ bs))).1 < (lowP i (multI (ts ++ bs))).2 := lt_of_mul hg (by omega)
  have hd : depI ts bs i = floors ts (lowP i (multI (ts ++ bs))).1 (lowP i (multI (ts ++ bs))).2 - floors bs (lowP i (multI (ts ++ bs))).1 (lowP i (multI (ts ++ bs))).2 := by
    rw [floors_low ts hC, floors_low bs hC]; rfl
  rw [← e1] at b1 b2 b3 b4 hden a1 a2 hd
  obtain ⟨c1, c2⟩ := ceil_facts (a := f.1.1) (b := f.1.2) (p := p) b3
  have p0 : 0 < f.1.1 * p := Int.mul_pos a1 (by omega)
  have q0 : f.1.1 * p ≤ (f.1.2 - 1) * p := Int.mul_le_mul_of_nonneg_right (by omega) (by omega)
  have q1 : (f.1.2 - 1) * p = f.1.2 * p - p := by rw [Int.sub_mul, Int.one_mul]
  have F1 : 0 < -(-f.1.1 * p / f.1.2) := by
    refine Int.lt_of_mul_lt_mul_left (a := f.1.2) ?_ (by omega)
    rw [Int.mul_zero]; omega
  have F2 : -(-f.1.1 * p / f.1.2) ≤ p := by
    refine Int.le_of_mul_le_mul_left (a := f.1.2) ?_ (by omega)
    omega
  refine ⟨b3, by omega, b1, by omega, neg, F1, F2, ?_⟩
  generalize -(-f.1.1 * p / f.1.2) = F at c1 c2 F1 F2
  rw [expo_one h.1 (by omega) (most_lt m1 (by omega) F2), e2, hd,
    floors_ceil (fun m hm => ⟨h.pos m (List.mem_append_left _ hm), maxL_ge (List.mem_append_left _ hm)⟩) b3 hden hp c1 c2,
    floors_ceil (fun m hm => ⟨h.pos m (List.mem_append_right _ hm), maxL_ge (List.mem_append_right _ hm)⟩) b3 hden hp c1 c2]
theorem floors_self {p : Int} (hp : 1 ≤ p) : ∀ ms : List Int, floors ms p p = ms.sum
  | [] => rfl
  | m :: ms => by
    have ih := floors_self hp ms
    unfold floors at ih ⊢
    rw [List.map_cons, List.sum_cons, ih, List.sum_cons, Int.mul_ediv_cancel _ (by omega)]
/-- the witness of an excess -/
theorem wit_excess {ts bs : List Int} (h : Good ts bs) {p : Int} (hp : maxL (ts ++ bs) * maxL (ts ++ bs) < p) : expo ts bs p p = ts.sum - bs.sum := by
  obtain ⟨m1, m2, m3⟩ := max_facts h
  rw [expo_one h.1 (by omega) (most_lt m1 (by omega) (Int.le_refl p)), floors_self (by omega), floors_self (by omega)]
end DL

namespace DL
open PySem PySem.Spec PyProof.Rows L2
/-! ### the numbers are right -/
section
variable {P : Program} {w : World} {K : PySem.W.Frag} {mg : Str → Option Value} {base : Heap} {Z : Zc}
/-! ### _law_numbers_right -/
def N__law_numbers_right : List Str := ["_law_row", "_law_tops", "_law_bottoms", "_law_most", "_law_first", "_law_number", "_law_bad", "_law_told", "_law_made", "_law_prime", "_law_many", "_law_turn"]
theorem sc__law_numbers_right : FnScope N__law_numbers_right ["_law_row", "_law_tops", "_law_bottoms", "_law_most"] (defScope (topAt 93)) := ⟨rfl, rfl, rfl, by decide +kernel, rfl, by decide +kernel, by decide +kernel⟩
def wb__law_numbers_right : WS := (wSeq (wSet 4 (wC .non)) (wSeq (wFor (wIR2 (wCons (wC (.int 1)) (wCons (wOp aAdd (wVar 3) (wC (.int 1))) wNil))) (gN 5) (wSeq (wPar2 6 7 .frz .frz (wCall sp__law_broken_at (wCons (wVar 1) (wCons (wVar 2) (wCons (wVar 5) wNil)))) (wCall sp__law_number_of (wCons (wVar 1) (wCons (wVar 2) (wCons (wVar 5) wNil))))) (wSeq (wIf (wOr (wTest (wOp (aEq true) (wCall sp_broken_primes (wCons (wVar 0) (wCons (wVar 5) wNil))) (wCall aTuple (wCons (wVar 6) wNil)))) (wOr (wTest (wOp (aEq true) (wMeth sp_value (wVar 0) (wCons (wVar 5) wNil)) (wVar 7))) (wTest (wOp (aEq true) (wOp (aEq false) (wOp aIx (wVar 7) (wC (.int 1))) (wC (.int 1))) (wOp (aEq false) (wVar 6) (wLst wNil)))))) (wRet (wC (.bl false))) wNext) (wSeq (wSet 4 (wIfE (wAnd (wTest (wIsN false (wVar 4))) (wTest (wOp (aEq true) (wVar 6) (wLst wNil)))) (wVar 5) (wVar 4))) (wSeq (wSet 8 (wTup (wCons (wC (.int 1)) (wCons (wC (.int 1)) wNil)))) (wSeq (wFor (wIItems (wCall sp_exponents_at (wCons (wVar 0) (wCons (wVar 5) wNil)))) (gT 2 (gsC (gN 9) (gsC (gN 10) gsN))) (wFor (wIR1 (wCons (wCall aAbs (wCons (wVar 10) wNil)) wNil)) (gN 11) (wSet 8 (wIfE (wTest (wOp aGt (wVar 10) (wC (.int 0)))) (wCall sp__law_lowest (wCons (wOp aMul (wOp aIx (wVar 8) (wC (.int 0))) (wVar 9)) (wCons (wOp aIx (wVar 8) (wC (.int 1))) wNil))) (wCall sp__law_lowest (wCons (wOp aIx (wVar 8) (wC (.int 0))) (wCons (wOp aMul (wOp aIx (wVar 8) (wC (.int 1))) (wVar 9)) wNil))))))) (wIf (wTest (wOp (aEq true) (wVar 8) (wVar 7))) (wRet (wC (.bl false))) wNext))))))) (wRet (wOp (aEq false) (wCall sp_first_broken (wCons (wVar 0) (wCons (wVar 3) wNil))) (wVar 4)))))
theorem b__law_numbers_right (T : Txt P w K mg base Z) (f : Addr) (cdv : Value) (A : Around) (outer : List Env) (s : Shared) (H : Hp) (E : XK) (hr : Room 7 (A.deeper (envOfC "_law_numbers_right" (defScope (topAt 93)) s.heap.objs.size f cdv))) :
    PSs (cxOf CX0 P w K mg base N__law_numbers_right "_law_numbers_right" (defScope (topAt 93)) f cdv A outer s H E).nox (defBody (topAt 93)) (tS Z wb__law_numbers_right) :=
  (pds_cons (pd_set (i := 4) sc__law_numbers_right.nd rfl (.inl rfl) pd_non)
    (pds_cons (pd_for (pd_ir2 rfl T.h_range (pd_consV (pe_vw pd_int) (pd_consV (pe_vw (pd_op op_add od_add (pe_vw (pd_var (i := 3) rfl (.inl rfl))) (pe_vw pd_int))) pd_nil))) (pd_gn (i := 5) (is := [5]) (by decide) sc__law_numbers_right.nd rfl (.inl rfl)) (pds_cons (pd_par2 (i := 6) (j := 7) (k1 := .frz) (k2 := .frz) (by decide) (by decide) rfl sc__law_numbers_right.nd rfl rfl (by decide) rfl rfl (pd_call (cal__law_broken_at T) hr (by decide) rfl (pd_cons (pd_var (i := 1) rfl (.inl rfl)) (pd_cons (pd_var (i := 2) rfl (.inl rfl)) (pd_cons (pd_var (i := 5) rfl (.inl rfl)) pd_nil)))) (pd_call (cal__law_number_of T) hr (by decide) rfl (pd_cons (pd_var (i := 1) rfl (.inl rfl)) (pd_cons (pd_var (i := 2) rfl (.inl rfl)) (pd_cons (pd_var (i := 5) rfl (.inl rfl)) pd_nil)))) (by rfl))
    (pds_cons (pd_if (PW.pt (pw_orD (pt_cmpD (op_neD hr.units) (od_ne T.z.k) (pe_vw (pd_call (cal_broken_primes T) hr (by decide) rfl (pd_cons (pd_var (i := 0) rfl (.inl rfl)) (pd_cons (pd_var (i := 5) rfl (.inl rfl)) pd_nil)))) (pe_vw (pd_callTy (cd_tuple T.z.k) call_tuple_of rfl T.h_tuple boot_tuple (pd_consV (pe_vw (pd_var (i := 6) rfl (.inl rfl))) pd_nil)))) (pw_orD (pt_cmpD (op_neD hr.units) (od_ne T.z.k) (pe_vw (pd_meth T.z (at_value T) hr (by decide) (pd_var (i := 0) rfl (.inl rfl)) (pd_cons (pd_var (i := 5) rfl (.inl rfl)) pd_nil))) (pe_vw (pd_var (i := 7) rfl (.inl rfl)))) (pw_or1D (pt_cmpD (op_neD hr.units) (od_ne T.z.k) (pe_vw (pd_cmp (op_eqD hr.units) (od_eq T.z.k) (pe_vw (pd_ix T.z.k (pe_vw (pd_var (i := 7) rfl (.inl rfl))) (pe_vw pd_int))) (pe_vw pd_int))) (pe_vw (pd_cmp (op_eqD hr.units) (od_eq T.z.k) (pe_vw (pd_var (i := 6) rfl (.inl rfl))) (pe_nv (pd_lst pd_nil))))))))) (pds_one (pd_ret pd_bl)) pds_nil)
    (pds_cons (pd_set (i := 4) sc__law_numbers_right.nd rfl (.inl rfl) (pd_ifE (PW.pt (pw_andD (pt_isN (pe_vw (pd_var (i := 4) rfl (.inl rfl)))) (pw_and1D (pt_cmpD (op_neD hr.units) (od_ne T.z.k) (pe_vw (pd_var (i := 6) rfl (.inl rfl))) (pe_nv (pd_lst pd_nil)))))) (pd_var (i := 5) rfl (.inl rfl)) (pd_var (i := 4) rfl (.inl rfl))))
    (pds_cons (pd_set (i := 8) sc__law_numbers_right.nd rfl (.inl rfl) (pd_tup (pd_cons pd_int (pd_cons pd_int pd_nil))))
    (pds_cons (pd_for (pd_iitems (pd_call (cal_exponents_at T) hr (by decide) rfl (pd_cons (pd_var (i := 0) rfl (.inl rfl)) (pd_cons (pd_var (i := 5) rfl (.inl rfl)) pd_nil)))) (pd_gt (n := 2) T.z.k rfl (pd_gsc (pd_gn (i := 9) (is := [9, 10]) (by decide) sc__law_numbers_right.nd rfl (.inl rfl)) (pd_gsc (pd_gn (i := 10) (is := [9, 10]) (by decide) sc__law_numbers_right.nd rfl (.inl rfl)) pd_gsn))) (pds_one (pd_for (pd_ir1 rfl T.h_range (pd_consV (pe_vw (pd_callB cd_abs call_abs rfl T.h_abs boot_abs (pd_consV (pe_vw (pd_var (i := 10) rfl (.inl rfl))) pd_nil))) pd_nil)) (pd_gn (i := 11) (is := [11]) (by decide) sc__law_numbers_right.nd rfl (.inl rfl)) (pds_one (pd_set (i := 8) sc__law_numbers_right.nd rfl (.inl rfl) (pd_ifE (pt_cmpD op_gt od_gt (pe_vw (pd_var (i := 10) rfl (.inl rfl))) (pe_vw pd_int)) (pd_call (cal__law_lowest T) hr (by decide) rfl (pd_cons (pd_op op_mulW od_mul (pe_vw (pd_ix T.z.k (pe_vw (pd_var (i := 8) rfl (.inl rfl))) (pe_vw pd_int))) (pe_vw (pd_var (i := 9) rfl (.inl rfl)))) (pd_cons (pd_ix T.z.k (pe_vw (pd_var (i := 8) rfl (.inl rfl))) (pe_vw pd_int)) pd_nil))) (pd_call (cal__law_lowest T) hr (by decide) rfl (pd_cons (pd_ix T.z.k (pe_vw (pd_var (i := 8) rfl (.inl rfl))) (pe_vw pd_int)) (pd_cons (pd_op op_mulW od_mul (pe_vw (pd_ix T.z.k (pe_vw (pd_var (i := 8) rfl (.inl rfl))) (pe_vw pd_int))) (pe_vw (pd_var (i := 9) rfl (.inl rfl)))) pd_nil)))))) PassesOwn.never rfl)) PassesOwn.never rfl)
    (pds_one (pd_if (pt_cmpD (op_neD hr.units) (od_ne T.z.k) (pe_vw (pd_var (i := 8) rfl (.inl rfl))) (pe_vw (pd_var (i := 7) rfl (.inl rfl)))) (pds_one (pd_ret pd_bl)) pds_nil))))))) PassesOwn.never rfl)
    (pds_one (pd_ret (pd_cmp (op_eqD hr.units) (od_eq T.z.k) (pe_vw (pd_call (cal_first_broken T) hr (by decide) rfl (pd_cons (pd_var (i := 0) rfl (.inl rfl)) (pd_cons (pd_var (i := 3) rfl (.inl rfl)) pd_nil)))) (pe_vw (pd_var (i := 4) rfl (.inl rfl))))))))
end
theorem eqv_refl_t (ns : List Int) : (!PyData.eqv (D.tup (ns.map D.int)).py (D.tup (ns.map D.int)).py) = false := by
  rw [eqv_tupI, decide_eq_true rfl]; rfl
theorem eqv_pairD (p q : Int × Int) : PyData.eqv (pairD p).py (pairD q).py = decide ([p.1, p.2] = [q.1, q.2]) := eqv_tupI [p.1, p.2] [q.1, q.2]
theorem cmp_pairD (p : Int × Int) : (pairD p).cmp := cmp_tupI [p.1, p.2]
def stE (e j : Int) : Int := if 0 < e then j else -j
def wMade : WS := (wSet 8 (wIfE (wTest (wOp aGt (wVar 10) (wC (.int 0)))) (wCall sp__law_lowest (wCons (wOp aMul (wOp aIx (wVar 8) (wC (.int 0))) (wVar 9)) (wCons (wOp aIx (wVar 8) (wC (.int 1))) wNil))) (wCall sp__law_lowest (wCons (wOp aIx (wVar 8) (wC (.int 0))) (wCons (wOp aMul (wOp aIx (wVar 8) (wC (.int 1))) (wVar 9)) wNil)))))
theorem pos_one (pre : List (Int × Int)) (p x : Int) : posP (pre ++ [(p, x)]) = posP pre * p ^ x.toNat := by
  rw [posP_app]
  show posP pre * (p ^ x.toNat * 1) = _
  rw [Int.mul_one]
theorem neg_one (pre : List (Int × Int)) (p x : Int) : negP (pre ++ [(p, x)]) = negP pre * p ^ (-x).toNat := by
  rw [negP_app]
  show negP pre * (p ^ (-x).toNat * 1) = _
  rw [Int.mul_one]
theorem pow_le {p : Int} (hp : 1 ≤ p) {a b : Nat} (h : a ≤ b) : p ^ a ≤ p ^ b := by
  obtain ⟨c, rfl⟩ := Nat.exists_eq_add_of_le h
  rw [Int.pow_add]
  exact le_mulp (pow_ge1 hp a) (pow_ge1 hp c)
/-- what is known of a part of the exponents -/
theorem part_prk {l pre suf : List (Int × Int)} {p e x : Int} (hl : l = pre ++ (p, e) :: suf) (hk : PrK l) : PrK (pre ++ [(p, x)]) := by
  subst hl
  obtain ⟨nd, pr⟩ := hk
  refine ⟨?_, fun y hy => ?_⟩
  · have : ((pre ++ [(p, x)]).map (·.1)).Sublist ((pre ++ (p, e) :: suf).map (·.1)) := by
      rw [List.map_append, List.map_append, List.map_cons, List.map_cons, List.map_nil]
      exact List.Sublist.append (List.Sublist.refl _) (List.Sublist.cons₂ _ (List.nil_sublist _))
    exact nd.sublist this
  · rcases List.mem_append.mp hy with hy | hy
    · exact pr y (List.mem_append_left _ hy)
    · rw [List.mem_singleton.mp hy]
      exact pr (p, e) (List.mem_append_right _ List.mem_cons_self)
theorem part_le {l pre suf : List (Int × Int)} {p e j : Int} (hl : l = pre ++ (p, e) :: suf) (hk : PrK l) (h0 : 0 ≤ j) (h1 : j ≤ e.natAbs) : posP (pre ++ [(p, stE e j)]) ≤ posP l ∧ negP (pre ++ [(p, stE e j)]) ≤ negP l := by
  subst hl
  have hp := pr_ge (hk.2 (p, e) (List.mem_append_right _ List.mem_cons_self))
  have hpre : ∀ x ∈ pre, prB x.1 = true := fun x hx => hk.2 x (List.mem_append_left _ hx)
  have hsuf : ∀ x ∈ suf, prB x.1 = true := fun x hx => hk.2 x (List.mem_append_right _ (List.mem_cons_of_mem _ hx))
  have hs : (stE e j).toNat ≤ e.toNat ∧ (-stE e j).toNat ≤ (-e).toNat := by
    unfold stE
    split <;> omega
  refine ⟨?_, ?_⟩
  · rw [pos_one, posP_app]
    refine Int.mul_le_mul_of_nonneg_left ?_ (by have := posP_ge hpre; omega)
    exact Int.le_trans (pow_le (by have : 2 ≤ p := hp; omega) hs.1) (le_mulp (pow_ge1 (by have : 2 ≤ p := hp; omega) _) (posP_ge hsuf))
  · rw [neg_one, negP_app]
    refine Int.mul_le_mul_of_nonneg_left ?_ (by have := negP_ge hpre; omega)
    exact Int.le_trans (pow_le (by have : 2 ≤ p := hp; omega) hs.2) (le_mulp (pow_ge1 (by have : 2 ≤ p := hp; omega) _) (negP_ge hsuf))
theorem made_inner (E : EndsD) {l pre suf : List (Int × Int)} {p e : Int} (hl : l = pre ++ (p, e) :: suf) (hk : PrK l) (hp20 : p < 2 ^ 20) (bp : (posP l).natAbs < 2 ^ 9000) (bn : (negP l).natAbs < 2 ^ 9000) (v0 v1 v2 v3 v4 v5 v6 v7 : Sl) : ∀ (k : Nat) (j : Int) (s : Sl), 0 ≤ j → j + k = e.natAbs →
    (∀ s, E.nx [v0, v1, v2, v3, v4, v5, v6, v7, .val (pairD (posP (pre ++ [(p, e)]), negP (pre ++ [(p, e)]))), .val (.int p), .val (.int e), s]) →
    forD (gN 11) wMade E (rngD j k) [v0, v1, v2, v3, v4, v5, v6, v7, .val (pairD (posP (pre ++ [(p, stE e j)]), negP (pre ++ [(p, stE e j)]))), .val (.int p), .val (.int e), s]
  | 0, j, s, h0, hj, q => by
    have : stE e j = e := by unfold stE; split <;> omega
    rw [this]
    exact q s
  | k + 1, j, s, h0, hj, q => by
    have hp : 2 ≤ p := pr_ge (hk.2 (p, e) (by rw [hl]; exact List.mem_append_right _ List.mem_cons_self))
    have hP := posP_ge (part_prk (x := stE e j) hl hk).2
    have hN := negP_ge (part_prk (x := stE e j) hl hk).2
    have hP2 := posP_ge (part_prk (x := stE e (j + 1)) hl hk).2
    have hN2 := negP_ge (part_prk (x := stE e (j + 1)) hl hk).2
    obtain ⟨l1, l2⟩ := part_le (j := j) hl hk h0 (by omega)
    obtain ⟨l3, l4⟩ := part_le (j := j + 1) hl hk (by omega) (by omega)
    have low := low_pn (part_prk (x := stE e (j + 1)) hl hk)
    have z := made_inner E hl hk hp20 bp bn v0 v1 v2 v3 v4 v5 v6 v7 k (j + 1) (.val (.int j)) (by omega) (by omega) q
    rw [rngD_succ, forD]
    refine ⟨_, rfl, _, rfl, ?_⟩
    by_cases he : 0 < e
    · have s1 : stE e j = j := if_pos he
      have s2 : stE e (j + 1) = j + 1 := if_pos he
      have e1 : posP (pre ++ [(p, stE e j)]) * p = posP (pre ++ [(p, stE e (j + 1))]) := by
        rw [s1, s2, pos_one, pos_one, show (j + 1).toNat = j.toNat + 1 by omega, Int.pow_succ, Int.mul_assoc]
      have e2 : negP (pre ++ [(p, stE e j)]) = negP (pre ++ [(p, stE e (j + 1))]) := by
        rw [s1, s2, neg_one, neg_one, show (-(j + 1)).toNat = (-j).toNat by omega]
      have c : CMulW (posP (pre ++ [(p, stE e j)])) p := mulW_of (a := 9000) (b := 20) (by omega) (by omega)
      refine ite_t (by simpa using he) ⟨_, rfl, _, _, _, rfl, rfl, atI0 _ _, _, rfl, c, _, rfl, _, _, _, rfl, rfl, atI1 _ _ _, ?_⟩
      refine ⟨_, _, rfl, by rw [e1]; omega, by show 0 < negP _; omega, by show (negP _).natAbs < _; omega, ?_⟩
      show forD (gN 11) wMade E (rngD (j + 1) k) [v0, v1, v2, v3, v4, v5, v6, v7, .val (pairD (lowP (posP (pre ++ [(p, stE e j)]) * p) (negP (pre ++ [(p, stE e j)])))), .val (.int p), .val (.int e), .val (.int j)]
      rw [e1, e2, low]
      exact z
    · have s1 : stE e j = -j := if_neg he
      have s2 : stE e (j + 1) = -(j + 1) := if_neg he
      have e1 : negP (pre ++ [(p, stE e j)]) * p = negP (pre ++ [(p, stE e (j + 1))]) := by
        rw [s1, s2, neg_one, neg_one, show (- -(j + 1)).toNat = (- -j).toNat + 1 by omega, Int.pow_succ, Int.mul_assoc]
      have e2 : posP (pre ++ [(p, stE e j)]) = posP (pre ++ [(p, stE e (j + 1))]) := by
        rw [s1, s2, pos_one, pos_one, show (-(j + 1)).toNat = (-j).toNat by omega]
      have c : CMulW (negP (pre ++ [(p, stE e j)])) p := mulW_of (a := 9000) (b := 20) (by omega) (by omega)
      refine ite_f (by simpa using he) ⟨_, rfl, _, _, _, rfl, rfl, atI0 _ _, _, rfl, _, _, _, rfl, rfl, atI1 _ _ _, _, rfl, c, ?_⟩
      refine ⟨_, _, rfl, by show 0 ≤ posP _; omega, by rw [e1]; omega, by rw [e1]; omega, ?_⟩
      show forD (gN 11) wMade E (rngD (j + 1) k) [v0, v1, v2, v3, v4, v5, v6, v7, .val (pairD (lowP (posP (pre ++ [(p, stE e j)])) (negP (pre ++ [(p, stE e j)]) * p))), .val (.int p), .val (.int e), .val (.int j)]
      rw [e1, e2, low]
      exact z
def wMadeAll : WS := (wFor (wIR1 (wCons (wCall aAbs (wCons (wVar 10) wNil)) wNil)) (gN 11) wMade)
theorem made_outer (E : EndsD) {l : List (Int × Int)} (hk : PrK l) (h20 : ∀ x ∈ l, x.1 < 2 ^ 20 ∧ x.2.natAbs < 2 ^ 60) (bp : (posP l).natAbs < 2 ^ 9000) (bn : (negP l).natAbs < 2 ^ 9000) (v0 v1 v2 v3 v4 v5 v6 v7 : Sl) : ∀ (suf pre : List (Int × Int)) (s9 s10 s11 : Sl), l = pre ++ suf →
    (∀ s9 s10 s11, E.nx [v0, v1, v2, v3, v4, v5, v6, v7, .val (pairD (posP l, negP l)), s9, s10, s11]) →
    forD (gT 2 (gsC (gN 9) (gsC (gN 10) gsN))) wMadeAll E (itemsD suf) [v0, v1, v2, v3, v4, v5, v6, v7, .val (pairD (posP pre, negP pre)), s9, s10, s11]
  | [], pre, s9, s10, s11, hl, q => by
    rw [List.append_nil] at hl
    subst hl
    exact q s9 s10 s11
  | (p, e) :: suf, pre, s9, s10, s11, hl, q => by
    obtain ⟨a, b⟩ := h20 (p, e) (by rw [hl]; exact List.mem_append_right _ List.mem_cons_self)
    have a : p < 2 ^ 20 := a
    have b : e.natAbs < 2 ^ 60 := b
    have z := made_outer E hk h20 bp bn v0 v1 v2 v3 v4 v5 v6 v7 suf (pre ++ [(p, e)])
    rw [show itemsD ((p, e) :: suf) = .tup [.int p, .int e] :: itemsD suf from rfl, forD]
    refine ⟨_, rfl, rfl, ?_⟩
    refine ⟨_, rfl, ⟨e, rfl, ⟨⟨by split <;> omega, by split <;> omega⟩, ?_⟩⟩⟩
    have y := made_inner { nx := forD (gT 2 (gsC (gN 9) (gsC (gN 10) gsN))) wMadeAll E (itemsD suf), rt := E.rt, bk := E.nx, ct := forD (gT 2 (gsC (gN 9) (gsC (gN 10) gsN))) wMadeAll E (itemsD suf) } hl hk a bp bn v0 v1 v2 v3 v4 v5 v6 v7 (if e < 0 then -e else e).toNat 0 s11 (Int.le_refl 0) (by split <;> omega) fun s => z (.val (.int p)) (.val (.int e)) s (by rw [hl, List.append_assoc]; rfl) q
    have s0 : stE e 0 = 0 := by unfold stE; split <;> rfl
    have e1 : posP (pre ++ [(p, stE e 0)]) = posP pre := by rw [pos_one, s0, Int.toNat_zero, Int.pow_zero, Int.mul_one]
    have e2 : negP (pre ++ [(p, stE e 0)]) = negP pre := by rw [neg_one, s0, Int.neg_zero, Int.toNat_zero, Int.pow_zero, Int.mul_one]
    rw [e1, e2] at y
    exact y
theorem lg_le {k p : Int} (h0 : 0 ≤ k) (hp : 1 ≤ p) : ∀ {f : Nat} {q : Int}, 1 ≤ q → lgF k p f q ≤ f * k
  | 0, q, _ => by show (0 : Int) ≤ _; rw [Int.natCast_zero, Int.zero_mul]; omega
  | f + 1, q, hq => by
    rw [lgF_succ h0 hq hp, Int.natCast_succ, Int.add_mul, Int.one_mul]
    have := lg_le (f := f) h0 hp (q := q * p) (by have := le_mulp hq hp; omega)
    have := Int.ediv_le_self q h0
    omega
theorem sumL_le {n p : Int} (hp : 1 ≤ p) : ∀ {ms : List Int}, (∀ m ∈ ms, 0 ≤ m * n ∧ m * n ≤ 120) → sumL ms n p ≤ 13200 * ms.length
  | [], _ => Nat.zero_le _
  | m :: ms, h => by
    have ih := sumL_le (ms := ms) hp fun k hk => h k (List.mem_cons_of_mem _ hk)
    obtain ⟨a, b⟩ := h m List.mem_cons_self
    have h1 : lg (m * n) p ≤ (110 : Nat) * (m * n) := lg_le a hp hp
    unfold sumL at ih ⊢
    rw [List.map_cons, List.sum_cons, List.length_cons]
    omega
theorem exp_items {ts bs : List Int} {n : Nat} (h : Small ts bs) (hn : maxL (ts ++ bs) * n ≤ 120) : ∀ x ∈ expAt ts bs n, x.1 < 2 ^ 20 ∧ x.2.natAbs < 2 ^ 60 := fun x hx => by
  unfold expAt at hx
  obtain ⟨p, hp, rfl⟩ := List.mem_map.mp (List.mem_filter.mp hx).1
  obtain ⟨_, p2, pn⟩ := prs_mem hp
  obtain ⟨k1, k2⟩ := h.le_max hn
  refine ⟨by show p < _; omega, ?_⟩
  show (expo ts bs p n).natAbs < _
  rw [expo_sum h (by omega)]
  have l1 := h.2.1
  have l2 := h.2.2.1
  have a := sumL_le (n := n) (p := p) (by omega) fun m hm => ⟨Int.mul_nonneg (by have := k1 m hm; omega) (by omega), (k1 m hm).2.2⟩
  have b := sumL_le (n := n) (p := p) (by omega) fun m hm => ⟨Int.mul_nonneg (by have := k2 m hm; omega) (by omega), (k2 m hm).2.2⟩
  omega
/-! the first broken index, from the left -/
theorem fst_cases (ts bs : List Int) : ∀ l : List Int, fstBrk ts bs l = .non ∨ ∃ k : Int, fstBrk ts bs l = .int k
  | [] => .inl rfl
  | k :: r => by
    unfold fstBrk
    by_cases e : brk ts bs k ≠ []
    · rw [if_pos e]; exact .inr ⟨k, rfl⟩
    · rw [if_neg e]; exact fst_cases ts bs r
theorem fst_snoc (ts bs : List Int) (k : Int) : ∀ l : List Int, fstBrk ts bs (l ++ [k]) = if (fstBrk ts bs l).isN = true ∧ brk ts bs k ≠ [] then .int k else fstBrk ts bs l
  | [] => by
    show (if brk ts bs k ≠ [] then D.int k else D.non) = if (D.non).isN = true ∧ brk ts bs k ≠ [] then .int k else D.non
    simp
  | i :: r => by
    rw [List.cons_append]
    unfold fstBrk
    by_cases e : brk ts bs i ≠ []
    · rw [if_pos e, if_pos e, if_neg (by rintro ⟨a, _⟩; cases a)]
    · rw [if_neg e, if_neg e, fst_snoc ts bs k r]
theorem fst_none {ts bs : List Int} : ∀ {l : List Int}, (∀ k ∈ l, brk ts bs k = []) → fstBrk ts bs l = .non
  | [], _ => rfl
  | k :: r, h => by
    unfold fstBrk
    rw [if_neg (by rw [h k List.mem_cons_self]; simp), fst_none fun i hi => h i (List.mem_cons_of_mem _ hi)]
theorem first_eq {ts bs : List Int} (h : Good ts bs) (n : Int) : firstD ts bs n = fstBrk ts bs (rngI 1 n.toNat) := by
  unfold firstD
  by_cases hw : wholeB ts bs = true
  · rw [if_pos hw, fst_none fun k hk => whole_brk h hw (by have := mem_rngI.mp hk; omega)]
  · rw [if_neg hw]
def sp__law_numbers_right : WL := fun ds Q => ∃ (ts bs : List Int) (n : Int), ds = [.row ts bs, .tup (ts.map D.int), .tup (bs.map D.int), .int n] ∧ Good ts bs ∧ 1 ≤ n ∧ n ≤ 4 ∧ maxL (ts ++ bs) * n ≤ 120 ∧ Q (.bl true)
def wNumber : WS := (wSeq (wPar2 6 7 .frz .frz (wCall sp__law_broken_at (wCons (wVar 1) (wCons (wVar 2) (wCons (wVar 5) wNil)))) (wCall sp__law_number_of (wCons (wVar 1) (wCons (wVar 2) (wCons (wVar 5) wNil))))) (wSeq (wIf (wOr (wTest (wOp (aEq true) (wCall sp_broken_primes (wCons (wVar 0) (wCons (wVar 5) wNil))) (wCall aTuple (wCons (wVar 6) wNil)))) (wOr (wTest (wOp (aEq true) (wMeth sp_value (wVar 0) (wCons (wVar 5) wNil)) (wVar 7))) (wTest (wOp (aEq true) (wOp (aEq false) (wOp aIx (wVar 7) (wC (.int 1))) (wC (.int 1))) (wOp (aEq false) (wVar 6) (wLst wNil)))))) (wRet (wC (.bl false))) wNext) (wSeq (wSet 4 (wIfE (wAnd (wTest (wIsN false (wVar 4))) (wTest (wOp (aEq true) (wVar 6) (wLst wNil)))) (wVar 5) (wVar 4))) (wSeq (wSet 8 (wTup (wCons (wC (.int 1)) (wCons (wC (.int 1)) wNil)))) (wSeq (wFor (wIItems (wCall sp_exponents_at (wCons (wVar 0) (wCons (wVar 5) wNil)))) (gT 2 (gsC (gN 9) (gsC (gN 10) gsN))) wMadeAll) (wIf (wTest (wOp (aEq true) (wVar 8) (wVar 7))) (wRet (wC (.bl false))) wNext))))))
theorem number_one (E : EndsD) {ts bs : List Int} (h : Good ts bs) (n : Nat) (h1 : 1 ≤ n) (h4 : n ≤ 4) (hm : maxL (ts ++ bs) * n ≤ 120) (s3 s6 s7 s8 s9 s10 s11 : Sl) (fst : D) (hf : fst = .non ∨ ∃ k : Int, fst = .int k)
    (q : ∀ s6 s7 s8 s9 s10 s11, E.nx [.val (.row ts bs), .val (.tup (ts.map D.int)), .val (.tup (bs.map D.int)), s3, .val (if fst.isN = true ∧ brk ts bs n ≠ [] then .int n else fst), .val (.int n), s6, s7, s8, s9, s10, s11]) :
    wNumber E [.val (.row ts bs), .val (.tup (ts.map D.int)), .val (.tup (bs.map D.int)), s3, .val fst, .val (.int n), s6, s7, s8, s9, s10, s11] := by
  obtain ⟨lowE, leP, leN⟩ := number_low h.1 hm
  obtain ⟨k1, k2⟩ := h.1.le_max hm
  have bA := prodF_small n ts h.1.2.1 k1
  have bB := prodF_small n bs h.1.2.2.1 k2
  have hk := exp_prk ts bs n
  have hP := posP_ge hk.2
  have hN := negP_ge hk.2
  refine ⟨_, rfl, _, rfl, _, rfl, ⟨ts, bs, n, rfl, h, by omega, by omega, ?_⟩⟩
  refine ⟨_, rfl, _, rfl, _, rfl, ⟨ts, bs, n, rfl, h.1, hm, ?_⟩⟩
  rw [lowE]
  -- broken_primes
  refine ⟨_, rfl, _, rfl, ⟨ts, bs, n, rfl, h.1, by omega, by omega, ⟨_, rfl, ⟨_, _, rfl, rfl, ⟨cmp_tupI _, cmp_tupI _, _, rfl, ?_⟩⟩⟩⟩⟩
  refine ite_f (eqv_refl_t _) ?_
  -- value
  refine ⟨_, rfl, _, rfl, ⟨ts, bs, n, rfl, h.1, hm, ?_⟩⟩
  rw [low_pair, lowE]
  refine ⟨_, rfl, ⟨cmp_pairD _, cmp_pairD _, _, rfl, ?_⟩⟩
  refine ite_f (by rw [if_pos rfl, eqv_pairD, decide_eq_true rfl]; rfl) ?_
  -- an integer or not
  refine ⟨_, rfl, _, _, _, rfl, rfl, atI1 _ _ _, cmp_int _, cmp_int _, ⟨_, rfl, ⟨Nat.zero_le _, ⟨cmp_lstI _, cmp_lstI [], ⟨cmp_bl _, cmp_bl _, _, rfl, ?_⟩⟩⟩⟩⟩
  refine ite_f ?_ ?_
  · rw [if_pos rfl, if_neg (by decide), if_neg (by decide), eqv_int, show D.lst [] = D.lst (List.map D.int []) from rfl, eqv_lstI, eqv_bl]
    have := int_iff (ts := ts) (bs := bs) (n := n)
    by_cases e : brk ts bs n = []
    · rw [decide_eq_true e, decide_eq_true (this.mpr e)]; rfl
    · rw [decide_eq_false e, decide_eq_false fun z => e (this.mp z)]; rfl
  -- the first one, the product, its last test
  have rest : ∀ fst' : D, fst' = (if fst.isN = true ∧ brk ts bs n ≠ [] then .int n else fst) → (wSeq (wSet 8 (wTup (wCons (wC (.int 1)) (wCons (wC (.int 1)) wNil)))) (wSeq (wFor (wIItems (wCall sp_exponents_at (wCons (wVar 0) (wCons (wVar 5) wNil)))) (gT 2 (gsC (gN 9) (gsC (gN 10) gsN))) wMadeAll) (wIf (wTest (wOp (aEq true) (wVar 8) (wVar 7))) (wRet (wC (.bl false))) wNext))) E
      [.val (.row ts bs), .val (.tup (ts.map D.int)), .val (.tup (bs.map D.int)), s3, .val fst', .val (.int n), .val (.lst ((brk ts bs n).map D.int)), .val (pairD (posP (expAt ts bs n), negP (expAt ts bs n))), s8, s9, s10, s11] := by
    rintro fst' rfl
    refine ⟨sz2.mpr trivial, _, rfl, _, rfl, ⟨ts, bs, n, rfl, h.1, by omega, by omega, ⟨_, rfl, ?_⟩⟩⟩
    refine made_outer _ hk (exp_items h.1 hm) (by omega) (by omega) _ _ _ _ _ _ _ _ (expAt ts bs n) [] s9 s10 s11 rfl fun s9 s10 s11 => ?_
    refine ⟨_, rfl, _, rfl, ⟨cmp_pairD _, cmp_pairD _, _, rfl, ?_⟩⟩
    refine ite_f (by rw [if_pos rfl, eqv_pairD, decide_eq_true rfl]; rfl) ?_
    exact q _ _ _ _ _ _
  rcases hf with rfl | ⟨k, rfl⟩
  · refine ⟨_, rfl, _, rfl, ?_⟩
    refine ite_t rfl ⟨_, rfl, ⟨Nat.zero_le _, ⟨cmp_lstI _, cmp_lstI [], _, rfl, ?_⟩⟩⟩
    rw [if_pos rfl, show D.lst [] = D.lst (List.map D.int []) from rfl, eqv_lstI]
    by_cases e : brk ts bs n = []
    · refine ite_f (by rw [decide_eq_true e]; rfl) ⟨_, rfl, rest _ ?_⟩
      rw [if_neg (by rintro ⟨_, z⟩; exact z e)]
    · refine ite_t (by rw [decide_eq_false e]; rfl) ⟨_, rfl, rest _ ?_⟩
      rw [if_pos ⟨rfl, e⟩]
  · refine ⟨_, rfl, _, rfl, ?_⟩
    refine ite_f rfl (ite_f rfl ⟨_, rfl, rest _ ?_⟩)
    rw [if_neg (by rintro ⟨z, _⟩; cases z)]
theorem number_loop (E : EndsD) {ts bs : List Int} (h : Good ts bs) {most : Int} (h4 : most ≤ 4) (hm : maxL (ts ++ bs) * most ≤ 120) (s3 : Sl) : ∀ (k : Nat) (a : Int) (s5 s6 s7 s8 s9 s10 s11 : Sl), 1 ≤ a → a + k = most + 1 →
    (∀ s5 s6 s7 s8 s9 s10 s11, E.nx [.val (.row ts bs), .val (.tup (ts.map D.int)), .val (.tup (bs.map D.int)), s3, .val (fstBrk ts bs (rngI 1 most.toNat)), s5, s6, s7, s8, s9, s10, s11]) →
    forD (gN 5) wNumber E (rngD a k) [.val (.row ts bs), .val (.tup (ts.map D.int)), .val (.tup (bs.map D.int)), s3, .val (fstBrk ts bs (rngI 1 (a - 1).toNat)), s5, s6, s7, s8, s9, s10, s11]
  | 0, a, s5, s6, s7, s8, s9, s10, s11, ha, hk, q => by
    have : (a - 1).toNat = most.toNat := by omega
    rw [this]
    exact q s5 s6 s7 s8 s9 s10 s11
  | k + 1, a, s5, s6, s7, s8, s9, s10, s11, ha, hk, q => by
    obtain ⟨n, rfl⟩ := Int.eq_ofNat_of_zero_le (show 0 ≤ a by omega)
    have hmx := (max_facts h).1
    have hle : maxL (ts ++ bs) * (n : Int) ≤ maxL (ts ++ bs) * most := Int.mul_le_mul_of_nonneg_left (by omega) (by omega)
    rw [rngD_succ, forD]
    refine number_one _ h n (by omega) (by omega) (by omega) s3 s6 s7 s8 s9 s10 s11 _ (fst_cases ts bs _) fun s6 s7 s8 s9 s10 s11 => ?_
    rw [← fst_snoc, show rngI 1 ((n : Int) - 1).toNat ++ [(n : Int)] = rngI 1 ((n : Int) + 1 - 1).toNat by
      rw [show ((n : Int) + 1 - 1).toNat = ((n : Int) - 1).toNat + 1 by omega, rngI_succ']
      congr 2
      omega]
    exact number_loop E h h4 hm s3 k ((n : Int) + 1) (.val (.int n)) s6 s7 s8 s9 s10 s11 (by omega) (by omega) q
theorem imp__law_numbers_right : ∀ ds Q, sp__law_numbers_right ds Q → ds.length = 4 ∧ wFn N__law_numbers_right wb__law_numbers_right ds Q := by
  rintro ds Q ⟨ts, bs, most, rfl, h, h1, h4, hm, q⟩
  refine ⟨rfl, ?_⟩
  refine ⟨_, rfl, ⟨⟨by decide, by decide, by omega, by omega⟩, ?_⟩⟩
  have e : (most + 1 - 1).toNat = most.toNat := by omega
  rw [e]
  refine number_loop _ h h4 hm _ most.toNat 1 .no .no .no .no .no .no .no (by omega) (by omega) fun s5 s6 s7 s8 s9 s10 s11 => ?_
  refine ⟨_, rfl, _, rfl, ⟨ts, bs, most, rfl, h, h1, by omega, ⟨_, rfl, ?_⟩⟩⟩
  rw [first_eq h]
  rcases fst_cases ts bs (rngI 1 most.toNat) with z | ⟨k, z⟩
  · rw [z]
    exact ⟨cmp_non, cmp_non, q⟩
  · rw [z]
    refine ⟨cmp_int _, cmp_int _, ?_⟩
    rw [if_neg (by decide), eqv_int, decide_eq_true rfl]
    exact q
theorem cal__law_numbers_right {P : Program} {w : World} {K : PySem.W.Frag} {mg : Str → Option Value} {base : Heap} {Z : Zc} (T : Txt P w K mg base Z) : Cal P w K mg base Z 8 "_law_numbers_right" sp__law_numbers_right :=
  cal_of T.d__law_numbers_right sc__law_numbers_right imp__law_numbers_right fun f cdv A outer s H E hr => b__law_numbers_right T f cdv A outer s H E hr
end DL

namespace DL
open PySem PySem.Spec PyProof.Rows L2
/-! ### the witness is right -/
section
variable {P : Program} {w : World} {K : PySem.W.Frag} {mg : Str → Option Value} {base : Heap} {Z : Zc}
/-! ### _law_witness_right -/
def N__law_witness_right : List Str := ["_law_bag_here", "_law_row", "_law_tops", "_law_bottoms", "_law_due", "_law_greatest", "_law_turn", "_law_prime", "_law_found", "_law_place", "_law_low"]
theorem sc__law_witness_right : FnScope N__law_witness_right ["_law_bag_here", "_law_row", "_law_tops", "_law_bottoms", "_law_due"] (defScope (topAt 94)) := ⟨rfl, rfl, rfl, by decide +kernel, rfl, by decide +kernel, by decide +kernel⟩
def wb__law_witness_right : WS := (wSeq (wSet 5 (wCall aMax (wCons (wOp aCatT (wVar 2) (wVar 3)) wNil))) (wSeq (wFor (wIR1 (wCons (wC (.int 2)) wNil)) (gN 6) (wSeq (wSet 7 (wCall sp__law_next_prime (wCons (wOp aAdd (wOp aAdd (wOp aMul (wVar 5) (wVar 5)) (wC (.int 1))) (wCall sp__law_grab (wCons (wVar 0) (wCons (wC (.int 3000)) wNil)))) wNil))) (wSeq (wSet 8 (wCall sp_witness (wCons (wVar 1) (wCons (wVar 7) wNil)))) (wSeq (wSet 9 (wIfE (wTest (wOp (aEq false) (wOp aIx (wVar 4) (wC (.int 0))) (wC (.str "stair")))) (wOp aIx (wVar 4) (wC (.int 1))) (wTup (wCons (wC (.int 1)) (wCons (wC (.int 1)) wNil))))) (wSeq (wIf (wOr (wTest (wOp (aEq true) (wVar 8) (wOp aSub (wC (.int 0)) (wOp aDiv (wOp aSub (wC (.int 0)) (wOp aMul (wOp aIx (wVar 9) (wC (.int 0))) (wVar 7))) (wOp aIx (wVar 9) (wC (.int 1))))))) (wNot (wTest (wChain aLe aLe (wC (.int 1)) (wVar 8) (wVar 7))))) (wRet (wC (.bl false))) wNext) (wSeq (wSet 10 (wCall sp__law_exponent (wCons (wVar 2) (wCons (wVar 3) (wCons (wVar 7) (wCons (wVar 8) wNil)))))) (wSeq (wIf (wOr (wTest (wOp (aEq true) (wVar 10) (wIfE (wTest (wOp (aEq false) (wOp aIx (wVar 4) (wC (.int 0))) (wC (.str "stair")))) (wOp aIx (wVar 4) (wC (.int 3))) (wOp aIx (wVar 4) (wC (.int 1)))))) (wOr (wTest (wOp aGe (wVar 10) (wC (.int 0)))) (wTest (wOp (aEq true) (wMeth sp_exponent (wVar 1) (wCons (wVar 7) (wCons (wVar 8) wNil))) (wVar 10))))) (wRet (wC (.bl false))) wNext) (wIf (wOr (wNot (wTest (wCall sp_is_witness (wCons (wVar 1) (wCons (wVar 7) (wCons (wVar 8) wNil)))))) (wOr (wTest (wCall sp_is_witness (wCons (wVar 1) (wCons (wVar 7) (wCons (wC (.int 0)) wNil))))) (wTest (wCall sp_is_witness (wCons (wVar 1) (wCons (wVar 7) (wCons (wC .non) wNil))))))) (wRet (wC (.bl false))) wNext)))))))) (wRet (wC (.bl true)))))
theorem b__law_witness_right (T : Txt P w K mg base Z) (f : Addr) (cdv : Value) (A : Around) (outer : List Env) (s : Shared) (H : Hp) (E : XK) (hr : Room 6 (A.deeper (envOfC "_law_witness_right" (defScope (topAt 94)) s.heap.objs.size f cdv))) :
    PSs (cxOf CX0 P w K mg base N__law_witness_right "_law_witness_right" (defScope (topAt 94)) f cdv A outer s H E).nox (defBody (topAt 94)) (tS Z wb__law_witness_right) :=
  (pds_cons (pd_set (i := 5) sc__law_witness_right.nd rfl (.inl rfl) (pd_callB (cd_max T.z.k) (max_any rfl (hu_of hr)) rfl T.h_max boot_max (pd_consV (pe_vw (pd_op op_catA (od_catT T.z.k) (pe_vw (pd_var (i := 2) rfl (.inl rfl))) (pe_vw (pd_var (i := 3) rfl (.inl rfl))))) pd_nil)))
    (pds_cons (pd_for (pd_ir1 rfl T.h_range (pd_consV (pe_vw pd_int) pd_nil)) (pd_gn (i := 6) (is := [6]) (by decide) sc__law_witness_right.nd rfl (.inl rfl)) (pds_cons (pd_set (i := 7) sc__law_witness_right.nd rfl (.inl rfl) (pd_call (cal__law_next_prime T) hr (by decide) rfl (pd_cons (pd_op op_add od_add (pe_vw (pd_op op_add od_add (pe_vw (pd_op op_mulW od_mul (pe_vw (pd_var (i := 5) rfl (.inl rfl))) (pe_vw (pd_var (i := 5) rfl (.inl rfl))))) (pe_vw pd_int))) (pe_vw (pd_call (cal__law_grab T) hr (by decide) rfl (pd_cons (pd_var (i := 0) rfl (.inl rfl)) (pd_cons pd_int pd_nil))))) pd_nil)))
    (pds_cons (pd_set (i := 8) sc__law_witness_right.nd rfl (.inl rfl) (pd_call (cal_witness T) hr (by decide) rfl (pd_cons (pd_var (i := 1) rfl (.inl rfl)) (pd_cons (pd_var (i := 7) rfl (.inl rfl)) pd_nil))))
    (pds_cons (pd_set (i := 9) sc__law_witness_right.nd rfl (.inl rfl) (pd_ifE (pt_cmpD (op_eqD hr.units) (od_eq T.z.k) (pe_vw (pd_ix T.z.k (pe_vw (pd_var (i := 4) rfl (.inl rfl))) (pe_vw pd_int))) (pe_vw pd_str)) (pd_ix T.z.k (pe_vw (pd_var (i := 4) rfl (.inl rfl))) (pe_vw pd_int)) (pd_tup (pd_cons pd_int (pd_cons pd_int pd_nil)))))
    (pds_cons (pd_if (PW.pt (pw_orD (pt_cmpD (op_neD hr.units) (od_ne T.z.k) (pe_vw (pd_var (i := 8) rfl (.inl rfl))) (pe_vw (pd_op op_sub od_sub (pe_vw pd_int) (pe_vw (pd_op op_fdivW od_div (pe_vw (pd_op op_sub od_sub (pe_vw pd_int) (pe_vw (pd_op op_mulW od_mul (pe_vw (pd_ix T.z.k (pe_vw (pd_var (i := 9) rfl (.inl rfl))) (pe_vw pd_int))) (pe_vw (pd_var (i := 7) rfl (.inl rfl))))))) (pe_vw (pd_ix T.z.k (pe_vw (pd_var (i := 9) rfl (.inl rfl))) (pe_vw pd_int)))))))) (pw_or1D (pt_notD (pt_chainD op_le op_le od_le od_le (pe_vw pd_int) (pe_vw (pd_var (i := 8) rfl (.inl rfl))) (pe_vw (pd_var (i := 7) rfl (.inl rfl)))))))) (pds_one (pd_ret pd_bl)) pds_nil)
    (pds_cons (pd_set (i := 10) sc__law_witness_right.nd rfl (.inl rfl) (pd_call (cal__law_exponent T) hr (by decide) rfl (pd_cons (pd_var (i := 2) rfl (.inl rfl)) (pd_cons (pd_var (i := 3) rfl (.inl rfl)) (pd_cons (pd_var (i := 7) rfl (.inl rfl)) (pd_cons (pd_var (i := 8) rfl (.inl rfl)) pd_nil))))))
    (pds_cons (pd_if (PW.pt (pw_orD (pt_cmpD (op_neD hr.units) (od_ne T.z.k) (pe_vw (pd_var (i := 10) rfl (.inl rfl))) (pe_vw (pd_ifE (pt_cmpD (op_eqD hr.units) (od_eq T.z.k) (pe_vw (pd_ix T.z.k (pe_vw (pd_var (i := 4) rfl (.inl rfl))) (pe_vw pd_int))) (pe_vw pd_str)) (pd_ix T.z.k (pe_vw (pd_var (i := 4) rfl (.inl rfl))) (pe_vw pd_int)) (pd_ix T.z.k (pe_vw (pd_var (i := 4) rfl (.inl rfl))) (pe_vw pd_int))))) (pw_orD (pt_cmpD op_ge od_ge (pe_vw (pd_var (i := 10) rfl (.inl rfl))) (pe_vw pd_int)) (pw_or1D (pt_cmpD (op_neD hr.units) (od_ne T.z.k) (pe_vw (pd_meth T.z (at_exponent T) hr (by decide) (pd_var (i := 1) rfl (.inl rfl)) (pd_cons (pd_var (i := 7) rfl (.inl rfl)) (pd_cons (pd_var (i := 8) rfl (.inl rfl)) pd_nil)))) (pe_vw (pd_var (i := 10) rfl (.inl rfl)))))))) (pds_one (pd_ret pd_bl)) pds_nil)
    (pds_one (pd_if (PW.pt (pw_orD (pt_notD (pt_valD (pd_call (cal_is_witness T) hr (by decide) rfl (pd_cons (pd_var (i := 1) rfl (.inl rfl)) (pd_cons (pd_var (i := 7) rfl (.inl rfl)) (pd_cons (pd_var (i := 8) rfl (.inl rfl)) pd_nil)))))) (pw_orD (pt_valD (pd_call (cal_is_witness T) hr (by decide) rfl (pd_cons (pd_var (i := 1) rfl (.inl rfl)) (pd_cons (pd_var (i := 7) rfl (.inl rfl)) (pd_cons pd_int pd_nil))))) (pw_or1D (pt_valD (pd_call (cal_is_witness T) hr (by decide) rfl (pd_cons (pd_var (i := 1) rfl (.inl rfl)) (pd_cons (pd_var (i := 7) rfl (.inl rfl)) (pd_cons pd_non pd_nil))))))))) (pds_one (pd_ret pd_bl)) pds_nil)))))))) PassesOwn.never rfl)
    (pds_one (pd_ret pd_bl))))
end
theorem kind_st {env : En} {f : (Int × Int) × (Int × Int) × Int} {R : Bool → Prop} (h4 : env[4]? = some (.val (stairT f))) (k : R true) : wTest (wOp (aEq false) (wOp aIx (wVar 4) (wC (.int 0))) (wC (.str "stair"))) env R :=
  ⟨_, h4, _, _, _, rfl, rfl, atI0 _ _, cmp_stair, cmp_stair, _, rfl, by rw [if_neg (by decide), eqv_ss]; exact k⟩
theorem kind_ex {env : En} {x : Int} {R : Bool → Prop} (h4 : env[4]? = some (.val (excD x))) (k : R false) : wTest (wOp (aEq false) (wOp aIx (wVar 4) (wC (.int 0))) (wC (.str "stair"))) env R :=
  ⟨_, h4, _, _, _, rfl, rfl, atI0 _ _, cmp_excess, cmp_stair, _, rfl, by rw [if_neg (by decide), eqv_es]; exact k⟩
theorem atI3 {α : Type} (a b c d : α) (r : List α) : atI (a :: b :: c :: d :: r) 3 = some d := by
  have := atI_nat (a :: b :: c :: d :: r) 3 (x := d) rfl
  exact this
/-- a fault, its place, its depth -/
def Due (d : D) (pl : Int × Int) (low : Int) : Prop := (∃ f, d = stairT f ∧ pl = f.1 ∧ low = f.2.2) ∨ ∃ x, d = excD x ∧ pl = (1, 1) ∧ low = x
theorem due_place {env : En} {d : D} {pl : Int × Int} {low : Int} {R : D → Prop} (hd : Due d pl low) (h4 : env[4]? = some (.val d)) (k : R (pairD pl)) :
    wIfE (wTest (wOp (aEq false) (wOp aIx (wVar 4) (wC (.int 0))) (wC (.str "stair")))) (wOp aIx (wVar 4) (wC (.int 1))) (wTup (wCons (wC (.int 1)) (wCons (wC (.int 1)) wNil))) env R := by
  rcases hd with ⟨f, rfl, rfl, rfl⟩ | ⟨x, rfl, rfl, rfl⟩
  · exact kind_st h4 (ite_t rfl ⟨_, h4, _, _, _, rfl, rfl, atI1 _ _ _, k⟩)
  · exact kind_ex h4 (ite_f rfl ⟨sz2.mpr trivial, k⟩)
theorem due_low {env : En} {d : D} {pl : Int × Int} {low : Int} {R : D → Prop} (hd : Due d pl low) (h4 : env[4]? = some (.val d)) (k : R (.int low)) :
    wIfE (wTest (wOp (aEq false) (wOp aIx (wVar 4) (wC (.int 0))) (wC (.str "stair")))) (wOp aIx (wVar 4) (wC (.int 3))) (wOp aIx (wVar 4) (wC (.int 1))) env R := by
  rcases hd with ⟨f, rfl, rfl, rfl⟩ | ⟨x, rfl, rfl, rfl⟩
  · exact kind_st h4 (ite_t rfl ⟨_, h4, _, _, _, rfl, rfl, atI3 _ _ _ _ _, k⟩)
  · exact kind_ex h4 (ite_f rfl ⟨_, h4, _, _, _, rfl, rfl, atI1 _ _ _, k⟩)
/-- what holds at every great prime -/
def WitOk (ts bs : List Int) (pl : Int × Int) (low : Int) : Prop := ∀ p, maxL (ts ++ bs) * maxL (ts ++ bs) < p → 0 ≤ pl.1 ∧ pl.1 < 2 ^ 20 ∧ 1 ≤ pl.2 ∧ pl.2 < 2 ^ 20 ∧ witI ts bs p = 0 - (0 - pl.1 * p) / pl.2 ∧ 1 ≤ witI ts bs p ∧ witI ts bs p ≤ p ∧ expo ts bs p (witI ts bs p) = low ∧ low < 0
theorem due_wit {ts bs : List Int} (h : Good ts bs) (hw : wholeB ts bs = false) : ∃ pl low, Due (faultD ts bs) pl low ∧ WitOk ts bs pl low := by
  obtain ⟨m1, m2, m3⟩ := max_facts h
  cases hf : faultF (stairsL ts bs) with
  | some f =>
    refine ⟨f.1, f.2.2, .inl ⟨f, by unfold faultD; rw [hf], rfl, rfl⟩, fun p hp => ?_⟩
    obtain ⟨a, b, c, d, e, g, i, j⟩ := wit_stair h hf hp
    have ew : witI ts bs p = -(-f.1.1 * p / f.1.2) := by unfold witI; rw [hf]
    rw [ew]
    refine ⟨c, d, a, b, ?_, g, i, j, e⟩
    rw [Int.zero_sub, Int.zero_sub, Int.neg_mul]
  | none =>
    have hx : ts.sum - bs.sum < 0 := by
      refine Classical.byContradiction fun z => ?_
      unfold wholeB faultD at hw
      rw [hf] at hw
      simp only at hw
      rw [if_neg z] at hw
      cases hw
    refine ⟨(1, 1), ts.sum - bs.sum, .inr ⟨_, by unfold faultD; rw [hf]; simp only; rw [if_pos hx]; rfl, rfl, rfl⟩, fun p hp => ?_⟩
    have ew : witI ts bs p = p := by unfold witI; rw [hf]
    rw [ew]
    refine ⟨by decide, by decide, by decide, by decide, ?_, by omega, by omega, wit_excess h hp, hx⟩
    show p = 0 - (0 - 1 * p) / 1
    rw [Int.ediv_one]; omega
def wTurn : WS := (wSeq (wSet 7 (wCall sp__law_next_prime (wCons (wOp aAdd (wOp aAdd (wOp aMul (wVar 5) (wVar 5)) (wC (.int 1))) (wCall sp__law_grab (wCons (wVar 0) (wCons (wC (.int 3000)) wNil)))) wNil)))
  (wSeq (wSet 8 (wCall sp_witness (wCons (wVar 1) (wCons (wVar 7) wNil))))
  (wSeq (wSet 9 (wIfE (wTest (wOp (aEq false) (wOp aIx (wVar 4) (wC (.int 0))) (wC (.str "stair")))) (wOp aIx (wVar 4) (wC (.int 1))) (wTup (wCons (wC (.int 1)) (wCons (wC (.int 1)) wNil)))))
  (wSeq (wIf (wOr (wTest (wOp (aEq true) (wVar 8) (wOp aSub (wC (.int 0)) (wOp aDiv (wOp aSub (wC (.int 0)) (wOp aMul (wOp aIx (wVar 9) (wC (.int 0))) (wVar 7))) (wOp aIx (wVar 9) (wC (.int 1))))))) (wNot (wTest (wChain aLe aLe (wC (.int 1)) (wVar 8) (wVar 7))))) (wRet (wC (.bl false))) wNext)
  (wSeq (wSet 10 (wCall sp__law_exponent (wCons (wVar 2) (wCons (wVar 3) (wCons (wVar 7) (wCons (wVar 8) wNil))))))
  (wSeq (wIf (wOr (wTest (wOp (aEq true) (wVar 10) (wIfE (wTest (wOp (aEq false) (wOp aIx (wVar 4) (wC (.int 0))) (wC (.str "stair")))) (wOp aIx (wVar 4) (wC (.int 3))) (wOp aIx (wVar 4) (wC (.int 1)))))) (wOr (wTest (wOp aGe (wVar 10) (wC (.int 0)))) (wTest (wOp (aEq true) (wMeth sp_exponent (wVar 1) (wCons (wVar 7) (wCons (wVar 8) wNil))) (wVar 10))))) (wRet (wC (.bl false))) wNext)
  (wIf (wOr (wNot (wTest (wCall sp_is_witness (wCons (wVar 1) (wCons (wVar 7) (wCons (wVar 8) wNil)))))) (wOr (wTest (wCall sp_is_witness (wCons (wVar 1) (wCons (wVar 7) (wCons (wC (.int 0)) wNil))))) (wTest (wCall sp_is_witness (wCons (wVar 1) (wCons (wVar 7) (wCons (wC .non) wNil))))))) (wRet (wC (.bl false))) wNext)))))))
theorem aMax_t2 (ts bs : List Int) (Q : D → Prop) (hne : ts ++ bs ≠ []) (q : Q (.int (maxL (ts ++ bs)))) : aMax [.tup (ts.map D.int ++ bs.map D.int)] Q := by
  rw [star_both]
  exact aOver_t _ _ _ ⟨hne, q⟩
theorem ne_self (i : Int) : (!PyData.eqv (D.int i).py (D.int i).py) = false := by rw [eqv_int, decide_eq_true rfl]; rfl
theorem wit_turn (E : EndsD) {ts bs : List Int} (h : Good ts bs) (hw : wholeB ts bs = false) {due : D} {pl : Int × Int} {low : Int} (hd : Due due pl low) (hq : WitOk ts bs pl low) (s6 s7 s8 s9 s10 : Sl)
    (q : ∀ s7 s8 s9 s10, E.nx [.val .bag, .val (.row ts bs), .val (.tup (ts.map D.int)), .val (.tup (bs.map D.int)), .val due, .val (.int (maxL (ts ++ bs))), s6, s7, s8, s9, s10]) :
    wTurn E [.val .bag, .val (.row ts bs), .val (.tup (ts.map D.int)), .val (.tup (bs.map D.int)), .val due, .val (.int (maxL (ts ++ bs))), s6, s7, s8, s9, s10] := by
  obtain ⟨m1, m2, m3⟩ := max_facts h
  have mm : maxL (ts ++ bs) * maxL (ts ++ bs) ≤ 60 * 60 := Int.mul_le_mul m2 m2 (by omega) (by decide)
  have cm : CMulW (maxL (ts ++ bs)) (maxL (ts ++ bs)) := mulW_of (a := 10) (b := 10) (by omega) (by omega)
  refine ⟨_, rfl, _, rfl, cm, _, rfl, 3000, rfl, by decide, by decide, fun r r0 r1 => ?_⟩
  refine ⟨_, rfl, by omega, fun p hp p0 p1 => ?_⟩
  obtain ⟨a0, a1, b0, b1, ew, w1, wp, ex, neg⟩ := hq p (by omega)
  refine ⟨_, rfl, _, rfl, ⟨ts, bs, p, rfl, h, hw, hp, by omega, by omega, ?_⟩⟩
  refine due_place hd rfl ?_
  have cm2 : CMulW pl.1 p := mulW_of (a := 20) (b := 20) (by omega) (by omega)
  have cd : CDivW (0 - pl.1 * p) pl.2 := divW_of (b := 20) (by omega) (by omega)
  refine ⟨_, rfl, _, rfl, _, _, _, rfl, rfl, atI0 _ _, _, rfl, cm2, _, rfl, _, _, _, rfl, rfl, atI1 _ _ _, cd, cmp_int _, cmp_int _, _, rfl, ?_⟩
  refine ite_f (show (if true = true then !PyData.eqv (D.int (witI ts bs p)).py (D.int (0 - (0 - pl.1 * p) / pl.2)).py else PyData.eqv (D.int (witI ts bs p)).py (D.int (0 - (0 - pl.1 * p) / pl.2)).py) = false by rw [← ew, if_pos rfl]; exact ne_self _) ?_
  clear ew cd
  generalize witI ts bs p = W at w1 wp ex ⊢
  refine ⟨_, rfl, _, rfl, ite_t (decide_eq_true w1) ⟨_, rfl, _, rfl, ?_⟩⟩
  refine ite_f (by rw [decide_eq_true wp]; rfl) ?_
  refine ⟨_, rfl, _, rfl, _, rfl, _, rfl, ⟨ts, bs, p, W, rfl, h.1, by omega, by omega, by omega, by omega, ?_⟩⟩
  rw [ex]
  refine ⟨_, rfl, due_low hd rfl ⟨cmp_int _, cmp_int _, _, rfl, ?_⟩⟩
  refine ite_f (ne_self _) ?_
  refine ⟨_, rfl, _, rfl, ite_f (decide_eq_false (by omega)) ?_⟩
  refine ⟨_, rfl, _, rfl, _, rfl, ⟨ts, bs, p, W, rfl, h.1, hp, by omega, by omega, by omega, ?_⟩⟩
  rw [ex]
  refine ⟨_, rfl, cmp_int _, cmp_int _, _, rfl, ?_⟩
  refine ite_f (ne_self _) ?_
  refine ⟨_, rfl, _, rfl, _, rfl, .inr ⟨ts, bs, p, W, rfl, h.1, hp, by omega, by omega, ⟨_, rfl, ?_⟩⟩⟩
  rw [ex]
  refine ite_f (by rw [decide_eq_true ⟨w1, neg⟩]; rfl) ?_
  refine ⟨_, rfl, _, rfl, .inr ⟨ts, bs, p, 0, rfl, h.1, hp, by omega, by decide, ⟨_, rfl, ?_⟩⟩⟩
  refine ite_f (decide_eq_false (by rintro ⟨z, _⟩; exact absurd z (by decide))) ?_
  refine ⟨_, rfl, _, rfl, .inl ⟨ts, bs, p, rfl, hp, by omega, ⟨_, rfl, ?_⟩⟩⟩
  exact ite_f rfl (q _ _ _ _)
theorem wit_loop (E : EndsD) {ts bs : List Int} (h : Good ts bs) (hw : wholeB ts bs = false) {due : D} {pl : Int × Int} {low : Int} (hd : Due due pl low) (hq : WitOk ts bs pl low)
    (q : ∀ s6 s7 s8 s9 s10, E.nx [.val .bag, .val (.row ts bs), .val (.tup (ts.map D.int)), .val (.tup (bs.map D.int)), .val due, .val (.int (maxL (ts ++ bs))), s6, s7, s8, s9, s10]) : ∀ (k : Nat) (j : Int) (s6 s7 s8 s9 s10 : Sl),
    forD (gN 6) wTurn E (rngD j k) [.val .bag, .val (.row ts bs), .val (.tup (ts.map D.int)), .val (.tup (bs.map D.int)), .val due, .val (.int (maxL (ts ++ bs))), s6, s7, s8, s9, s10]
  | 0, j, s6, s7, s8, s9, s10 => q s6 s7 s8 s9 s10
  | k + 1, j, s6, s7, s8, s9, s10 => by
    rw [rngD_succ, forD]
    exact wit_turn _ h hw hd hq (.val (.int j)) s7 s8 s9 s10 fun s7 s8 s9 s10 => wit_loop E h hw hd hq q k (j + 1) (.val (.int j)) s7 s8 s9 s10
def sp__law_witness_right : WL := fun ds Q => ∃ ts bs : List Int, ds = [.bag, .row ts bs, .tup (ts.map D.int), .tup (bs.map D.int), faultD ts bs] ∧ Good ts bs ∧ wholeB ts bs = false ∧ Q (.bl true)
theorem imp__law_witness_right : ∀ ds Q, sp__law_witness_right ds Q → ds.length = 5 ∧ wFn N__law_witness_right wb__law_witness_right ds Q := by
  rintro ds Q ⟨ts, bs, rfl, h, hw, q⟩
  refine ⟨rfl, ?_⟩
  obtain ⟨pl, low, hd, hq⟩ := due_wit h hw
  have hsz := h.1.sz
  refine ⟨_, rfl, _, rfl, _, _, rfl, rfl, by simpa using hsz, ?_⟩
  simp only [wNil]
  refine aMax_t2 _ _ _ h.1.2.2.2 ?_
  refine ⟨⟨by decide, by decide⟩, ?_⟩
  exact wit_loop _ h hw hd hq (fun s6 s7 s8 s9 s10 => q) 2 0 .no .no .no .no .no
theorem cal__law_witness_right {P : Program} {w : World} {K : PySem.W.Frag} {mg : Str → Option Value} {base : Heap} {Z : Zc} (T : Txt P w K mg base Z) : Cal P w K mg base Z 7 "_law_witness_right" sp__law_witness_right :=
  cal_of T.d__law_witness_right sc__law_witness_right imp__law_witness_right fun f cdv A outer s H E hr => b__law_witness_right T f cdv A outer s H E hr
end DL

namespace DL
open PySem PySem.Spec PyProof.Rows L2
/-! ### great indices -/
section
variable {P : Program} {w : World} {K : PySem.W.Frag} {mg : Str → Option Value} {base : Heap} {Z : Zc}
/-! ### _law_great_right -/
def N__law_great_right : List Str := ["_law_bag_here", "_law_row", "_law_tops", "_law_bottoms", "_law_whole", "_law_turn", "_law_prime", "_law_number", "_law_told"]
theorem sc__law_great_right : FnScope N__law_great_right ["_law_bag_here", "_law_row", "_law_tops", "_law_bottoms"] (defScope (topAt 95)) := ⟨rfl, rfl, rfl, by decide +kernel, rfl, by decide +kernel, by decide +kernel⟩
def wb__law_great_right : WS := (wSeq (wSet 4 (wCall sp__law_is_whole (wCons (wVar 2) (wCons (wVar 3) wNil)))) (wSeq (wFor (wIR1 (wCons (wC (.int 6)) wNil)) (gN 5) (wSeq (wPar2 6 7 .frz .frz (wCall sp__law_one_of (wCons (wVar 0) (wCons (wLst (wCons (wC (.int 2)) (wCons (wC (.int 3)) (wCons (wC (.int 5)) (wCons (wC (.int 7)) (wCons (wC (.int 11)) (wCons (wC (.int 101)) (wCons (wC (.int 9973)) (wCons (wC (.int 999983)) wNil))))))))) wNil))) (wCall sp__law_grab (wCons (wVar 0) (wCons (wCall sp__law_one_of (wCons (wVar 0) (wCons (wLst (wCons (wC (.int 50)) (wCons (wOp aPow (wC (.int 10)) (wC (.int 6))) (wCons (wOp aPow (wC (.int 10)) (wC (.int 30))) wNil)))) wNil))) wNil)))) (wSeq (wSet 8 (wMeth sp_exponent (wVar 1) (wCons (wVar 6) (wCons (wVar 7) wNil)))) (wSeq (wIf (wOr (wTest (wOp (aEq true) (wVar 8) (wCall sp__law_exponent (wCons (wVar 2) (wCons (wVar 3) (wCons (wVar 6) (wCons (wVar 7) wNil))))))) (wAnd (wTest (wVar 4)) (wTest (wOp aLt (wVar 8) (wC (.int 0)))))) (wRet (wC (.bl false))) wNext) (wIf (wTest (wOp (aEq true) (wCall sp_is_witness (wCons (wVar 1) (wCons (wVar 6) (wCons (wVar 7) wNil)))) (wOp aLt (wVar 8) (wC (.int 0))))) (wRet (wC (.bl false))) wNext))))) (wRet (wC (.bl true)))))
theorem b__law_great_right (T : Txt P w K mg base Z) (f : Addr) (cdv : Value) (A : Around) (outer : List Env) (s : Shared) (H : Hp) (E : XK) (hr : Room 5 (A.deeper (envOfC "_law_great_right" (defScope (topAt 95)) s.heap.objs.size f cdv))) :
    PSs (cxOf CX0 P w K mg base N__law_great_right "_law_great_right" (defScope (topAt 95)) f cdv A outer s H E).nox (defBody (topAt 95)) (tS Z wb__law_great_right) :=
  (pds_cons (pd_set (i := 4) sc__law_great_right.nd rfl (.inl rfl) (pd_call (cal__law_is_whole T) hr (by decide) rfl (pd_cons (pd_var (i := 2) rfl (.inl rfl)) (pd_cons (pd_var (i := 3) rfl (.inl rfl)) pd_nil))))
    (pds_cons (pd_for (pd_ir1 rfl T.h_range (pd_consV (pe_vw pd_int) pd_nil)) (pd_gn (i := 5) (is := [5]) (by decide) sc__law_great_right.nd rfl (.inl rfl)) (pds_cons (pd_par2 (i := 6) (j := 7) (k1 := .frz) (k2 := .frz) (by decide) (by decide) rfl sc__law_great_right.nd rfl rfl (by decide) rfl rfl (pd_call (cal__law_one_of T) hr (by decide) rfl (pd_cons (pd_var (i := 0) rfl (.inl rfl)) (pd_cons (pe_frz (pd_lst (pd_cons pd_int (pd_cons pd_int (pd_cons pd_int (pd_cons pd_int (pd_cons pd_int (pd_cons pd_int (pd_cons pd_int (pd_cons pd_int pd_nil)))))))))) pd_nil))) (pd_call (cal__law_grab T) hr (by decide) rfl (pd_cons (pd_var (i := 0) rfl (.inl rfl)) (pd_cons (pd_call (cal__law_one_of T) hr (by decide) rfl (pd_cons (pd_var (i := 0) rfl (.inl rfl)) (pd_cons (pe_frz (pd_lst (pd_cons pd_int (pd_cons (pd_op op_pow od_pow (pe_vw pd_int) (pe_vw pd_int)) (pd_cons (pd_op op_pow od_pow (pe_vw pd_int) (pe_vw pd_int)) pd_nil))))) pd_nil))) pd_nil))) (by rfl))
    (pds_cons (pd_set (i := 8) sc__law_great_right.nd rfl (.inl rfl) (pd_meth T.z (at_exponent T) hr (by decide) (pd_var (i := 1) rfl (.inl rfl)) (pd_cons (pd_var (i := 6) rfl (.inl rfl)) (pd_cons (pd_var (i := 7) rfl (.inl rfl)) pd_nil))))
    (pds_cons (pd_if (PW.pt (pw_orD (pt_cmpD (op_neD hr.units) (od_ne T.z.k) (pe_vw (pd_var (i := 8) rfl (.inl rfl))) (pe_vw (pd_call (cal__law_exponent T) hr (by decide) rfl (pd_cons (pd_var (i := 2) rfl (.inl rfl)) (pd_cons (pd_var (i := 3) rfl (.inl rfl)) (pd_cons (pd_var (i := 6) rfl (.inl rfl)) (pd_cons (pd_var (i := 7) rfl (.inl rfl)) pd_nil))))))) (pw_or1D (PW.pt (pw_andD (pt_valD (pd_var (i := 4) rfl (.inl rfl))) (pw_and1D (pt_cmpD op_lt od_lt (pe_vw (pd_var (i := 8) rfl (.inl rfl))) (pe_vw pd_int)))))))) (pds_one (pd_ret pd_bl)) pds_nil)
    (pds_one (pd_if (pt_cmpD (op_neD hr.units) (od_ne T.z.k) (pe_vw (pd_call (cal_is_witness T) hr (by decide) rfl (pd_cons (pd_var (i := 1) rfl (.inl rfl)) (pd_cons (pd_var (i := 6) rfl (.inl rfl)) (pd_cons (pd_var (i := 7) rfl (.inl rfl)) pd_nil))))) (pe_vw (pd_cmp op_lt od_lt (pe_vw (pd_var (i := 8) rfl (.inl rfl))) (pe_vw pd_int)))) (pds_one (pd_ret pd_bl)) pds_nil))))) PassesOwn.never rfl)
    (pds_one (pd_ret pd_bl))))
end
theorem whole_eq (ts bs : List Int) : wholeB ts bs = (decide (bs.sum ≤ ts.sum) && decide (0 ≤ minD ts bs)) := by
  rw [Bool.eq_iff_iff, whole_iff, Bool.and_eq_true, decide_eq_true_eq, decide_eq_true_eq, minD_iff]
  exact and_comm
theorem pr2 : prB 2 = true := by decide +kernel
theorem pr3 : prB 3 = true := by decide +kernel
theorem pr5 : prB 5 = true := by decide +kernel
theorem pr7 : prB 7 = true := by decide +kernel
theorem pr11 : prB 11 = true := by decide +kernel
theorem pr101 : prB 101 = true := by decide +kernel
theorem pr9973 : prB 9973 = true := prB_by 100 (by decide) (by decide) (by decide +kernel)
theorem pr999983 : prB 999983 = true := prB_by 1000 (by decide) (by decide) (by decide +kernel)
def wGreat : WS := (wSeq (wPar2 6 7 .frz .frz (wCall sp__law_one_of (wCons (wVar 0) (wCons (wLst (wCons (wC (.int 2)) (wCons (wC (.int 3)) (wCons (wC (.int 5)) (wCons (wC (.int 7)) (wCons (wC (.int 11)) (wCons (wC (.int 101)) (wCons (wC (.int 9973)) (wCons (wC (.int 999983)) wNil))))))))) wNil))) (wCall sp__law_grab (wCons (wVar 0) (wCons (wCall sp__law_one_of (wCons (wVar 0) (wCons (wLst (wCons (wC (.int 50)) (wCons (wOp aPow (wC (.int 10)) (wC (.int 6))) (wCons (wOp aPow (wC (.int 10)) (wC (.int 30))) wNil)))) wNil))) wNil)))) (wSeq (wSet 8 (wMeth sp_exponent (wVar 1) (wCons (wVar 6) (wCons (wVar 7) wNil)))) (wSeq (wIf (wOr (wTest (wOp (aEq true) (wVar 8) (wCall sp__law_exponent (wCons (wVar 2) (wCons (wVar 3) (wCons (wVar 6) (wCons (wVar 7) wNil))))))) (wAnd (wTest (wVar 4)) (wTest (wOp aLt (wVar 8) (wC (.int 0)))))) (wRet (wC (.bl false))) wNext) (wIf (wTest (wOp (aEq true) (wCall sp_is_witness (wCons (wVar 1) (wCons (wVar 6) (wCons (wVar 7) wNil)))) (wOp aLt (wVar 8) (wC (.int 0))))) (wRet (wC (.bl false))) wNext))))
theorem great_turn (E : EndsD) {ts bs : List Int} (h : Good ts bs) (s5 s6 s7 s8 : Sl)
    (q : ∀ s6 s7 s8, E.nx [.val .bag, .val (.row ts bs), .val (.tup (ts.map D.int)), .val (.tup (bs.map D.int)), .val (.bl (wholeB ts bs)), s5, s6, s7, s8]) :
    wGreat E [.val .bag, .val (.row ts bs), .val (.tup (ts.map D.int)), .val (.tup (bs.map D.int)), .val (.bl (wholeB ts bs)), s5, s6, s7, s8] := by
  refine ⟨_, rfl, sz8.mpr trivial, ⟨_, _, rfl, rfl, by simp, by decide, fun x hx => ?_⟩⟩
  have hx : ∃ p : Int, x = .int p ∧ prB p = true ∧ p ≤ 10 ^ 6 := by
    simp only [List.mem_cons, List.not_mem_nil, or_false] at hx
    rcases hx with rfl | rfl | rfl | rfl | rfl | rfl | rfl | rfl
    · exact ⟨2, rfl, pr2, by decide⟩
    · exact ⟨3, rfl, pr3, by decide⟩
    · exact ⟨5, rfl, pr5, by decide⟩
    · exact ⟨7, rfl, pr7, by decide⟩
    · exact ⟨11, rfl, pr11, by decide⟩
    · exact ⟨101, rfl, pr101, by decide⟩
    · exact ⟨9973, rfl, pr9973, by decide⟩
    · exact ⟨999983, rfl, pr999983, by decide⟩
  obtain ⟨p, rfl, hp, p6⟩ := hx
  have p2 := (prB_iff.mp hp).1
  have c6 : CPow 10 6 := by unfold CPow; decide
  have c30 : CPow 10 30 := by unfold CPow; decide
  refine ⟨_, rfl, _, rfl, c6, c30, sz3.mpr trivial, ⟨_, _, rfl, rfl, by simp, by decide, fun x hx => ?_⟩⟩
  have hx : ∃ t : Int, x = .int t ∧ 1 ≤ t ∧ t ≤ 10 ^ 30 := by
    simp only [List.mem_cons, List.not_mem_nil, or_false] at hx
    rcases hx with rfl | rfl | rfl
    · exact ⟨_, rfl, by decide, by decide⟩
    · exact ⟨_, rfl, by decide, by decide⟩
    · exact ⟨_, rfl, by decide, by decide⟩
  obtain ⟨t, rfl, t1, t2⟩ := hx
  refine ⟨t, rfl, t1, t2, fun n n0 n1 => ?_⟩
  refine ⟨_, rfl, _, rfl, _, rfl, ⟨ts, bs, p, n, rfl, h.1, hp, p6, n0, by omega, ?_⟩⟩
  refine ⟨_, rfl, _, rfl, _, rfl, _, rfl, _, rfl, ⟨ts, bs, p, n, rfl, h.1, p2, by omega, n0, by omega, ⟨cmp_int _, cmp_int _, _, rfl, ?_⟩⟩⟩
  refine ite_f (by rw [if_pos rfl, eqv_int, decide_eq_true rfl]; rfl) ?_
  have key : wIf (wTest (wOp (aEq true) (wCall sp_is_witness (wCons (wVar 1) (wCons (wVar 6) (wCons (wVar 7) wNil)))) (wOp aLt (wVar 8) (wC (.int 0))))) (wRet (wC (.bl false))) wNext E
      [.val .bag, .val (.row ts bs), .val (.tup (ts.map D.int)), .val (.tup (bs.map D.int)), .val (.bl (wholeB ts bs)), s5, .val (.int p), .val (.int n), .val (.int (expo ts bs p n))] := by
    refine ⟨_, rfl, _, rfl, _, rfl, .inr ⟨ts, bs, p, n, rfl, h.1, hp, p6, by omega, ⟨_, rfl, ⟨cmp_bl _, cmp_bl _, _, rfl, ?_⟩⟩⟩⟩
    refine ite_f ?_ (q _ _ _)
    have e : decide (1 ≤ n ∧ expo ts bs p n < 0) = decide (expo ts bs p n < 0) := by
      by_cases z : n = 0
      · rw [z, expo_zero p2]; rfl
      · rw [decide_eq_decide]
        exact ⟨fun a => a.2, fun a => ⟨by omega, a⟩⟩
    rw [if_pos rfl, e, eqv_bl, decide_eq_true rfl]; rfl
  cases hw : wholeB ts bs with
  | true =>
    rw [hw] at key
    have := expo_nonneg h hw (p := p) (n := n) p2 n0
    exact ⟨_, rfl, _, rfl, ite_t rfl ⟨_, rfl, _, rfl, ite_f (decide_eq_false (by omega)) key⟩⟩
  | false =>
    rw [hw] at key
    exact ⟨_, rfl, _, rfl, ite_f rfl (ite_f rfl key)⟩
theorem great_loop (E : EndsD) {ts bs : List Int} (h : Good ts bs)
    (q : ∀ s5 s6 s7 s8, E.nx [.val .bag, .val (.row ts bs), .val (.tup (ts.map D.int)), .val (.tup (bs.map D.int)), .val (.bl (wholeB ts bs)), s5, s6, s7, s8]) : ∀ (k : Nat) (j : Int) (s5 s6 s7 s8 : Sl),
    forD (gN 5) wGreat E (rngD j k) [.val .bag, .val (.row ts bs), .val (.tup (ts.map D.int)), .val (.tup (bs.map D.int)), .val (.bl (wholeB ts bs)), s5, s6, s7, s8]
  | 0, j, s5, s6, s7, s8 => q s5 s6 s7 s8
  | k + 1, j, s5, s6, s7, s8 => by
    rw [rngD_succ, forD]
    exact great_turn _ h (.val (.int j)) s6 s7 s8 fun s6 s7 s8 => great_loop E h q k (j + 1) (.val (.int j)) s6 s7 s8
def sp__law_great_right : WL := fun ds Q => ∃ ts bs : List Int, ds = [.bag, .row ts bs, .tup (ts.map D.int), .tup (bs.map D.int)] ∧ Good ts bs ∧ Q (.bl true)
theorem imp__law_great_right : ∀ ds Q, sp__law_great_right ds Q → ds.length = 4 ∧ wFn N__law_great_right wb__law_great_right ds Q := by
  rintro ds Q ⟨ts, bs, rfl, h, q⟩
  refine ⟨rfl, ?_⟩
  refine ⟨_, rfl, _, rfl, ⟨ts, bs, rfl, h, ?_⟩⟩
  rw [← whole_eq]
  refine ⟨⟨by decide, by decide⟩, ?_⟩
  exact great_loop _ h (fun s5 s6 s7 s8 => q) 6 0 .no .no .no .no
theorem cal__law_great_right {P : Program} {w : World} {K : PySem.W.Frag} {mg : Str → Option Value} {base : Heap} {Z : Zc} (T : Txt P w K mg base Z) : Cal P w K mg base Z 6 "_law_great_right" sp__law_great_right :=
  cal_of T.d__law_great_right sc__law_great_right imp__law_great_right fun f cdv A outer s H E hr => b__law_great_right T f cdv A outer s H E hr
end DL

namespace DL
open PySem PySem.Spec PyProof.Rows L2
/-! ### one drawn row -/
section
variable {P : Program} {w : World} {K : PySem.W.Frag} {mg : Str → Option Value} {base : Heap} {Z : Zc}
/-! ### _law_right -/
def N__law_right : List Str := ["_law_bag_here", "_law_tops", "_law_bottoms", "_law_row", "_law_due"]
theorem sc__law_right : FnScope N__law_right ["_law_bag_here"] (defScope (topAt 96)) := ⟨rfl, rfl, rfl, by decide +kernel, rfl, by decide +kernel, by decide +kernel⟩
def wb__law_right : WS := (wSeq (wAsg (wCall sp__law_row_drawn (wCons (wVar 0) wNil)) (gT 2 (gsC (gN 1) (gsC (gN 2) gsN)))) (wSeq (wPar2 3 4 .frz .frz (wMake RowOk (wVar 1) (wVar 2)) (wCall sp__law_fault_due (wCons (wVar 1) (wCons (wVar 2) wNil)))) (wSeq (wIf (wOr (wTest (wOp (aEq true) (wCall sp_is_whole (wCons (wVar 3) wNil)) (wIsN false (wVar 4)))) (wOr (wTest (wOp (aEq true) (wCall sp_fault (wCons (wVar 3) wNil)) (wVar 4))) (wTest (wOp (aEq true) (wIsN false (wVar 4)) (wCall sp__law_is_whole (wCons (wVar 1) (wCons (wVar 2) wNil))))))) (wRet (wC (.bl false))) wNext) (wSeq (wIf (wTest (wOp (aEq true) (wOp aLt (wCall sp_least_depth (wCons (wVar 3) wNil)) (wC (.int 0))) (wAndV (wIsN true (wVar 4)) (wOp (aEq false) (wOp aIx (wVar 4) (wC (.int 0))) (wC (.str "stair")))))) (wRet (wC (.bl false))) wNext) (wSeq (wIf (wNot (wTest (wCall sp__law_numbers_right (wCons (wVar 3) (wCons (wVar 1) (wCons (wVar 2) (wCons (wCall aMin2 (wCons (wC (.int 4)) (wCons (wOp aDiv (wC (.int 120)) (wCall aMax (wCons (wOp aCatT (wVar 1) (wVar 2)) wNil))) wNil))) wNil))))))) (wRet (wC (.bl false))) wNext) (wSeq (wIf (wAnd (wTest (wIsN true (wVar 4))) (wNot (wTest (wCall sp__law_witness_right (wCons (wVar 0) (wCons (wVar 3) (wCons (wVar 1) (wCons (wVar 2) (wCons (wVar 4) wNil))))))))) (wRet (wC (.bl false))) wNext) (wSeq (wIf (wAnd (wTest (wIsN false (wVar 4))) (wTest (wCall sp_is_whole (wCons (wProp sp_exchanged (wVar 3)) wNil)))) (wRet (wC (.bl false))) wNext) (wRet (wCall sp__law_great_right (wCons (wVar 0) (wCons (wVar 3) (wCons (wVar 1) (wCons (wVar 2) wNil)))))))))))))
theorem b__law_right (T : Txt P w K mg base Z) (f : Addr) (cdv : Value) (A : Around) (outer : List Env) (s : Shared) (H : Hp) (E : XK) (hr : Room 8 (A.deeper (envOfC "_law_right" (defScope (topAt 96)) s.heap.objs.size f cdv))) :
    PSs (cxOf CX0 P w K mg base N__law_right "_law_right" (defScope (topAt 96)) f cdv A outer s H E).nox (defBody (topAt 96)) (tS Z wb__law_right) :=
  (pds_cons (pd_asg (pd_call (cal__law_row_drawn T) hr (by decide) rfl (pd_cons (pd_var (i := 0) rfl (.inl rfl)) pd_nil)) (pd_gt (n := 2) T.z.k rfl (pd_gsc (pd_gn (i := 1) (is := [1, 2]) (by decide) sc__law_right.nd rfl (.inl rfl)) (pd_gsc (pd_gn (i := 2) (is := [1, 2]) (by decide) sc__law_right.nd rfl (.inl rfl)) pd_gsn))))
    (pds_cons (pd_par2 (i := 3) (j := 4) (k1 := .frz) (k2 := .frz) (by decide) (by decide) rfl sc__law_right.nd rfl rfl (by decide) rfl rfl (pd_make (mk_row T) hr (by decide) rfl (pd_var (i := 1) rfl (.inl rfl)) (pd_var (i := 2) rfl (.inl rfl))) (pd_call (cal__law_fault_due T) hr (by decide) rfl (pd_cons (pd_var (i := 1) rfl (.inl rfl)) (pd_cons (pd_var (i := 2) rfl (.inl rfl)) pd_nil))) (by rfl))
    (pds_cons (pd_if (PW.pt (pw_orD (pt_cmpD (op_neD hr.units) (od_ne T.z.k) (pe_vw (pd_call (cal_is_whole T) hr (by decide) rfl (pd_cons (pd_var (i := 3) rfl (.inl rfl)) pd_nil))) (pe_vw (pd_isN (pe_vw (pd_var (i := 4) rfl (.inl rfl)))))) (pw_orD (pt_cmpD (op_neD hr.units) (od_ne T.z.k) (pe_vw (pd_call (cal_fault T) hr (by decide) rfl (pd_cons (pd_var (i := 3) rfl (.inl rfl)) pd_nil))) (pe_vw (pd_var (i := 4) rfl (.inl rfl)))) (pw_or1D (pt_cmpD (op_neD hr.units) (od_ne T.z.k) (pe_vw (pd_isN (pe_vw (pd_var (i := 4) rfl (.inl rfl))))) (pe_vw (pd_call (cal__law_is_whole T) hr (by decide) rfl (pd_cons (pd_var (i := 1) rfl (.inl rfl)) (pd_cons (pd_var (i := 2) rfl (.inl rfl)) pd_nil))))))))) (pds_one (pd_ret pd_bl)) pds_nil)
    (pds_cons (pd_if (pt_cmpD (op_neD hr.units) (od_ne T.z.k) (pe_vw (pd_cmp op_lt od_lt (pe_vw (pd_call (cal_least_depth T) hr (by decide) rfl (pd_cons (pd_var (i := 3) rfl (.inl rfl)) pd_nil))) (pe_vw pd_int))) (pe_vw (pd_and (pd_notN (pe_vw (pd_var (i := 4) rfl (.inl rfl)))) (pd_one (pd_cmp (op_eqD hr.units) (od_eq T.z.k) (pe_vw (pd_ix T.z.k (pe_vw (pd_var (i := 4) rfl (.inl rfl))) (pe_vw pd_int))) (pe_vw pd_str)))))) (pds_one (pd_ret pd_bl)) pds_nil)
    (pds_cons (pd_if (pt_notD (pt_valD (pd_call (cal__law_numbers_right T) hr (by decide) rfl (pd_cons (pd_var (i := 3) rfl (.inl rfl)) (pd_cons (pd_var (i := 1) rfl (.inl rfl)) (pd_cons (pd_var (i := 2) rfl (.inl rfl)) (pd_cons (pd_callB cd_two (call_min2 rfl) rfl T.h_min boot_min (pd_consV (pe_vw pd_int) (pd_consV (pe_vw (pd_op op_fdivW od_div (pe_vw pd_int) (pe_vw (pd_callB (cd_max T.z.k) (max_any rfl (hu_of hr)) rfl T.h_max boot_max (pd_consV (pe_vw (pd_op op_catA (od_catT T.z.k) (pe_vw (pd_var (i := 1) rfl (.inl rfl))) (pe_vw (pd_var (i := 2) rfl (.inl rfl))))) pd_nil))))) pd_nil))) pd_nil))))))) (pds_one (pd_ret pd_bl)) pds_nil)
    (pds_cons (pd_if (PW.pt (pw_andD (pt_notN (pe_vw (pd_var (i := 4) rfl (.inl rfl)))) (pw_and1D (pt_notD (pt_valD (pd_call (cal__law_witness_right T) hr (by decide) rfl (pd_cons (pd_var (i := 0) rfl (.inl rfl)) (pd_cons (pd_var (i := 3) rfl (.inl rfl)) (pd_cons (pd_var (i := 1) rfl (.inl rfl)) (pd_cons (pd_var (i := 2) rfl (.inl rfl)) (pd_cons (pd_var (i := 4) rfl (.inl rfl)) pd_nil))))))))))) (pds_one (pd_ret pd_bl)) pds_nil)
    (pds_cons (pd_if (PW.pt (pw_andD (pt_isN (pe_vw (pd_var (i := 4) rfl (.inl rfl)))) (pw_and1D (pt_valD (pd_call (cal_is_whole T) hr (by decide) rfl (pd_cons (pd_meth0 T.z (at_exchanged T) hr (by decide) (pd_var (i := 3) rfl (.inl rfl))) pd_nil)))))) (pds_one (pd_ret pd_bl)) pds_nil)
    (pds_one (pd_ret (pd_call (cal__law_great_right T) hr (by decide) rfl (pd_cons (pd_var (i := 0) rfl (.inl rfl)) (pd_cons (pd_var (i := 3) rfl (.inl rfl)) (pd_cons (pd_var (i := 1) rfl (.inl rfl)) (pd_cons (pd_var (i := 2) rfl (.inl rfl)) pd_nil))))))))))))))
end
theorem eqv_cmp {d : D} (h : d.cmp) : PyData.eqv d.py d.py = true := SeqAt.eqv_refl _ (SeqAt.canLay_of_shaped h.2)
theorem cmp_stairT (f : (Int × Int) × (Int × Int) × Int) : (stairT f).cmp := by
  refine ⟨rfl, ?_⟩
  show (PyData.canLay0 (stairT f).py && decide (PyData.depth (stairT f).py ≤ 64)) = true
  rw [Bool.and_eq_true]
  refine ⟨?_, ?_⟩
  · have : PyData.canLay0 (.str "stair") = true := by decide +kernel
    show (PyData.canLay0 (.str "stair") && _) = true
    rw [this]; rfl
  · exact decide_eq_true (show (max 0 (max (max 0 (max 0 0) + 1) (max (max 0 (max 0 0) + 1) (max 0 0))) + 1 : Nat) ≤ 64 by decide)
theorem cmp_excD (x : Int) : (excD x).cmp := by
  refine ⟨rfl, ?_⟩
  show (PyData.canLay0 (excD x).py && decide (PyData.depth (excD x).py ≤ 64)) = true
  rw [Bool.and_eq_true]
  refine ⟨?_, ?_⟩
  · have : PyData.canLay0 (.str "excess") = true := by decide +kernel
    show (PyData.canLay0 (.str "excess") && _) = true
    rw [this]; rfl
  · exact decide_eq_true (show (max 0 (max 0 0) + 1 : Nat) ≤ 64 by decide)
/-- a fault is one of three -/
theorem fault_cases (ts bs : List Int) : (∃ f, faultD ts bs = stairT f ∧ minD ts bs < 0) ∨ (∃ x, faultD ts bs = excD x ∧ 0 ≤ minD ts bs) ∨ (faultD ts bs = .non ∧ 0 ≤ minD ts bs) := by
  have hm := minD_iff (ts := ts) (bs := bs)
  unfold faultD
  cases hf : faultF (stairsL ts bs) with
  | some f =>
    refine .inl ⟨f, rfl, ?_⟩
    rw [hf] at hm
    refine Classical.byContradiction fun z => ?_
    have := hm.mp (by omega)
    cases this
  | none =>
    have h0 := hm.mpr hf
    by_cases hx : ts.sum - bs.sum < 0
    · simp only
      rw [if_pos hx]
      exact .inr (.inl ⟨_, rfl, h0⟩)
    · simp only
      rw [if_neg hx]
      exact .inr (.inr ⟨rfl, h0⟩)
theorem cmp_fault (ts bs : List Int) : (faultD ts bs).cmp := by
  rcases fault_cases ts bs with ⟨f, e, _⟩ | ⟨x, e, _⟩ | ⟨e, _⟩
  · rw [e]; exact cmp_stairT f
  · rw [e]; exact cmp_excD x
  · rw [e]; exact cmp_non
theorem ne_bl (b : Bool) : (if true = true then !PyData.eqv (D.bl b).py (D.bl b).py else PyData.eqv (D.bl b).py (D.bl b).py) = false := by
  rw [if_pos rfl, eqv_bl, decide_eq_true rfl]; rfl
theorem kind_and {env : En} {ts bs : List Int} {R : D → Prop} (h4 : env[4]? = some (.val (faultD ts bs))) (k : R (.bl (decide (minD ts bs < 0)))) :
    wAndV (wIsN true (wVar 4)) (wOp (aEq false) (wOp aIx (wVar 4) (wC (.int 0))) (wC (.str "stair"))) env R := by
  rcases fault_cases ts bs with ⟨f, e, m⟩ | ⟨x, e, m⟩ | ⟨e, m⟩
  · rw [e] at h4
    rw [decide_eq_true m] at k
    exact ⟨_, h4, _, rfl, ite_t rfl ⟨_, h4, _, _, _, rfl, rfl, atI0 _ _, cmp_stair, cmp_stair, by rw [if_neg (by decide), eqv_ss]; exact k⟩⟩
  · rw [e] at h4
    rw [decide_eq_false (by omega)] at k
    exact ⟨_, h4, _, rfl, ite_t rfl ⟨_, h4, _, _, _, rfl, rfl, atI0 _ _, cmp_excess, cmp_stair, by rw [if_neg (by decide), eqv_es]; exact k⟩⟩
  · rw [e] at h4
    rw [decide_eq_false (by omega)] at k
    exact ⟨_, h4, _, rfl, ite_f rfl k⟩
def sp__law_right : WL := fun ds Q => ds = [.bag] ∧ Q (.bl true)
theorem imp__law_right : ∀ ds Q, sp__law_right ds Q → ds.length = 1 ∧ wFn N__law_right wb__law_right ds Q := by
  rintro ds Q ⟨rfl, q⟩
  refine ⟨rfl, ?_⟩
  refine ⟨_, rfl, ⟨rfl, fun ts bs ok => ?_⟩⟩
  have h := ok.2.2.2
  have hsz := h.1.sz
  obtain ⟨m1, m2, m3⟩ := max_facts h
  simp only [gT, gsC, gN, gsN, twoD]
  refine ⟨_, rfl, rfl, ?_⟩
  refine ⟨_, rfl, _, rfl, ts, bs, rfl, rfl, ok, ?_⟩
  refine ⟨_, rfl, _, rfl, ⟨ts, bs, rfl, h, ?_⟩⟩
  -- is_whole, fault
  refine ⟨_, rfl, ⟨ts, bs, rfl, h, ⟨_, rfl, ⟨cmp_bl _, cmp_bl _, _, rfl, ?_⟩⟩⟩⟩
  refine ite_f (ne_bl (wholeB ts bs)) ?_
  refine ⟨_, rfl, ⟨ts, bs, rfl, h, ⟨_, rfl, ⟨cmp_fault ts bs, cmp_fault ts bs, _, rfl, ?_⟩⟩⟩⟩
  refine ite_f (by rw [if_pos rfl, eqv_cmp (cmp_fault ts bs)]; rfl) ?_
  refine ⟨_, rfl, _, rfl, _, rfl, ⟨ts, bs, rfl, h, ?_⟩⟩
  rw [← whole_eq]
  refine ⟨cmp_bl _, cmp_bl _, _, rfl, ?_⟩
  refine ite_f (ne_bl (wholeB ts bs)) ?_
  -- least_depth
  refine ⟨_, rfl, ⟨ts, bs, rfl, h, kind_and rfl ⟨cmp_bl _, cmp_bl _, _, rfl, ?_⟩⟩⟩
  refine ite_f (ne_bl (decide (minD ts bs < 0))) ?_
  -- the first numbers
  have cd : CDivW 120 (maxL (ts ++ bs)) := divW_of (b := 10) (by omega) (by omega)
  refine ⟨_, rfl, _, rfl, _, rfl, _, rfl, _, rfl, _, _, rfl, rfl, by simpa using hsz, ?_⟩
  simp only [wNil]
  refine aMax_t2 _ _ _ h.1.2.2.2 ⟨cd, _, _, rfl, ?_⟩
  have d2 : 2 ≤ 120 / maxL (ts ++ bs) := Int.le_ediv_of_mul_le (by omega) (by omega)
  have d3 : maxL (ts ++ bs) * (120 / maxL (ts ++ bs)) ≤ 120 := Int.mul_ediv_self_le (by omega)
  have d4 : maxL (ts ++ bs) * (if 120 / maxL (ts ++ bs) < 4 then 120 / maxL (ts ++ bs) else 4) ≤ 120 := by
    have : maxL (ts ++ bs) * (if 120 / maxL (ts ++ bs) < 4 then 120 / maxL (ts ++ bs) else 4) ≤ maxL (ts ++ bs) * (120 / maxL (ts ++ bs)) := Int.mul_le_mul_of_nonneg_left (by split <;> omega) (by omega)
    omega
  have d5 : 1 ≤ (if 120 / maxL (ts ++ bs) < 4 then 120 / maxL (ts ++ bs) else 4) := by split <;> omega
  have d6 : (if 120 / maxL (ts ++ bs) < 4 then 120 / maxL (ts ++ bs) else 4) ≤ 4 := by split <;> omega
  refine ⟨ts, bs, _, rfl, h, d5, d6, d4, ⟨_, rfl, ?_⟩⟩
  refine ite_f rfl ?_
  have last : (wRet (wCall sp__law_great_right (wCons (wVar 0) (wCons (wVar 3) (wCons (wVar 1) (wCons (wVar 2) wNil)))))) { nx := fun _ => Q .non, rt := Q } [.val .bag, .val (.tup (ts.map D.int)), .val (.tup (bs.map D.int)), .val (.row ts bs), .val (faultD ts bs)] :=
    ⟨_, rfl, _, rfl, _, rfl, _, rfl, ⟨ts, bs, rfl, h, q⟩⟩
  cases hw : wholeB ts bs with
  | false =>
    refine ⟨_, rfl, _, rfl, ite_t (by show (!wholeB ts bs) = true; rw [hw]; rfl) ⟨_, rfl, _, rfl, _, rfl, _, rfl, _, rfl, ⟨ts, bs, rfl, h, hw, ⟨_, rfl, ite_f rfl ?_⟩⟩⟩⟩
    exact ⟨_, rfl, _, rfl, ite_f hw (ite_f rfl last)⟩
  | true =>
    refine ⟨_, rfl, _, rfl, ite_f (by show (!wholeB ts bs) = false; rw [hw]; rfl) (ite_f rfl ?_)⟩
    exact ⟨_, rfl, _, rfl, ite_t hw ⟨_, rfl, ⟨ts, bs, rfl, ok.swap, ⟨bs, ts, rfl, h.swap, ⟨_, rfl, ite_f (not_both ok hw) last⟩⟩⟩⟩⟩
theorem cal__law_right {P : Program} {w : World} {K : PySem.W.Frag} {mg : Str → Option Value} {base : Heap} {Z : Zc} (T : Txt P w K mg base Z) : Cal P w K mg base Z 9 "_law_right" sp__law_right :=
  cal_of T.d__law_right sc__law_right imp__law_right fun f cdv A outer s H E hr => b__law_right T f cdv A outer s H E hr
end DL

namespace DL
open PySem PySem.Spec PyProof.Rows L2
/-! ### the law's last lines -/
def N_law : List Str := ["_law_script", "_law_spot", "_law_bag_here", "_law_chebyshev", "_law_broken"]
theorem sc_law : FnScope N_law ["_law_script"] (defScope (topAt 97)) := ⟨rfl, rfl, rfl, by decide +kernel, rfl, by decide +kernel, by decide +kernel⟩
def wb_law : WS := (wSeq (wPar2 3 4 .frz .frz (wMake RowOk (wTup (wCons (wC (.int 30)) (wCons (wC (.int 1)) wNil))) (wTup (wCons (wC (.int 15)) (wCons (wC (.int 10)) (wCons (wC (.int 6)) wNil))))) (wMake RowOk (wTup (wCons (wC (.int 4)) (wCons (wC (.int 1)) wNil))) (wTup (wCons (wC (.int 3)) (wCons (wC (.int 2)) wNil))))) (wSeq (wIf (wOr (wNot (wTest (wCall sp_is_whole (wCons (wVar 3) wNil)))) (wOr (wTest (wOp (aEq true) (wCall sp_fault (wCons (wVar 4) wNil)) (wTup (wCons (wC (.str "stair")) (wCons (wTup (wCons (wC (.int 2)) (wCons (wC (.int 3)) wNil))) (wCons (wTup (wCons (wC (.int 3)) (wCons (wC (.int 4)) wNil))) (wCons (wUn aNeg (wC (.int 1))) wNil))))))) (wTest (wOp (aEq true) (wCall sp_witness (wCons (wVar 4) (wCons (wC (.int 17)) wNil))) (wC (.int 12)))))) (wRet (wC (.bl false))) wNext) (wRet (wAndV (wOp (aEq false) (wCall sp_fault (wCons (wMake RowOk (wTup (wCons (wC (.int 3)) wNil)) (wTup (wCons (wC (.int 2)) (wCons (wC (.int 1)) (wCons (wC (.int 1)) wNil))))) wNil)) (wTup (wCons (wC (.str "excess")) (wCons (wUn aNeg (wC (.int 1))) wNil)))) (wAndV (wOp (aEq false) (wCall sp_first_broken (wCons (wVar 4) (wCons (wC (.int 100)) wNil))) (wC (.int 2))) (wOp (aEq false) (wMeth sp_value (wVar 3) (wCons (wC (.int 1)) wNil)) (wTup (wCons (wC (.int 77636318760)) (wCons (wC (.int 1)) wNil)))))))))
theorem b_law {P : Program} {w : World} {K : PySem.W.Frag} {mg : Str → Option Value} {base : Heap} {Z : Zc} (T : Txt P w K mg base Z) (f : Addr) (cdv : Value) (A : Around) (outer : List Env) (s : Shared) (H : Hp) (E : XK) (hr : Room 9 (A.deeper (envOfC "law" (defScope (topAt 97)) s.heap.objs.size f cdv))) :
    PSs (cxOf CX0 P w K mg base N_law "law" (defScope (topAt 97)) f cdv A outer s H E).nox ((defBody (topAt 97)).drop 1) (tS Z wb_law) :=
  (pds_cons (pd_par2 (i := 3) (j := 4) (k1 := .frz) (k2 := .frz) (by decide) (by decide) rfl sc_law.nd rfl rfl (by decide) rfl rfl (pd_make (mk_row T) hr (by decide) rfl (pd_tup (pd_cons pd_int (pd_cons pd_int pd_nil))) (pd_tup (pd_cons pd_int (pd_cons pd_int (pd_cons pd_int pd_nil))))) (pd_make (mk_row T) hr (by decide) rfl (pd_tup (pd_cons pd_int (pd_cons pd_int pd_nil))) (pd_tup (pd_cons pd_int (pd_cons pd_int pd_nil)))) (by rfl))
    (pds_cons (pd_if (PW.pt (pw_orD (pt_notD (pt_valD (pd_call (cal_is_whole T) hr (by decide) rfl (pd_cons (pd_var (i := 3) rfl (.inl rfl)) pd_nil)))) (pw_orD (pt_cmpD (op_neD hr.units) (od_ne T.z.k) (pe_vw (pd_call (cal_fault T) hr (by decide) rfl (pd_cons (pd_var (i := 4) rfl (.inl rfl)) pd_nil))) (pe_vw (pd_tup (pd_cons pd_str (pd_cons (pd_tup (pd_cons pd_int (pd_cons pd_int pd_nil))) (pd_cons (pd_tup (pd_cons pd_int (pd_cons pd_int pd_nil))) (pd_cons (pd_un un_neg ud_neg (pe_vw pd_int)) pd_nil))))))) (pw_or1D (pt_cmpD (op_neD hr.units) (od_ne T.z.k) (pe_vw (pd_call (cal_witness T) hr (by decide) rfl (pd_cons (pd_var (i := 4) rfl (.inl rfl)) (pd_cons pd_int pd_nil)))) (pe_vw pd_int)))))) (pds_one (pd_ret pd_bl)) pds_nil)
    (pds_one (pd_ret (pd_and (pd_cmp (op_eqD hr.units) (od_eq T.z.k) (pe_vw (pd_call (cal_fault T) hr (by decide) rfl (pd_cons (pd_make (mk_row T) hr (by decide) rfl (pd_tup (pd_cons pd_int pd_nil)) (pd_tup (pd_cons pd_int (pd_cons pd_int (pd_cons pd_int pd_nil))))) pd_nil))) (pe_vw (pd_tup (pd_cons pd_str (pd_cons (pd_un un_neg ud_neg (pe_vw pd_int)) pd_nil))))) (pd_and (pd_cmp (op_eqD hr.units) (od_eq T.z.k) (pe_vw (pd_call (cal_first_broken T) hr (by decide) rfl (pd_cons (pd_var (i := 4) rfl (.inl rfl)) (pd_cons pd_int pd_nil)))) (pe_vw pd_int)) (pd_one (pd_cmp (op_eqD hr.units) (od_eq T.z.k) (pe_vw (pd_meth T.z (at_value T) hr (by decide) (pd_var (i := 3) rfl (.inl rfl)) (pd_cons pd_int pd_nil))) (pe_vw (pd_tup (pd_cons pd_int (pd_cons pd_int pd_nil))))))))))))
theorem row30 : RowOk [30, 1] [15, 10, 6] := ⟨by decide, by decide, by decide, ⟨⟨by decide, by decide, by decide, by decide⟩, by decide +kernel⟩⟩
theorem row3 : RowOk [3] [2, 1, 1] := ⟨by decide, by decide, by decide, ⟨⟨by decide, by decide, by decide, by decide⟩, by decide +kernel⟩⟩
theorem whole30 : wholeB [30, 1] [15, 10, 6] = true := by rw [whole_eq]; decide +kernel
theorem fault41 : faultF (stairsL [4, 1] [3, 2]) = some ((2, 3), (3, 4), -1) := by decide +kernel
theorem fault3 : faultF (stairsL [3] [2, 1, 1]) = none := by decide +kernel
theorem faultD41 : faultD [4, 1] [3, 2] = stairT ((2, 3), (3, 4), -1) := by unfold faultD; rw [fault41]
theorem faultD3 : faultD [3] [2, 1, 1] = excD (-1) := by unfold faultD; rw [fault3]; rfl
theorem whole41 : wholeB [4, 1] [3, 2] = false := by unfold wholeB; rw [faultD41]; rfl
theorem wit41 : witI [4, 1] [3, 2] 17 = 12 := by unfold witI; rw [fault41]; rfl
theorem pr17 : prB 17 = true := by decide +kernel
theorem brk1 : brk [4, 1] [3, 2] 1 = [] := by decide +kernel
theorem brk2 : brk [4, 1] [3, 2] 2 ≠ [] := by decide +kernel
theorem first41 : firstD [4, 1] [3, 2] 100 = .int 2 := by
  rw [first_eq row4132.2.2.2, show (100 : Int).toNat = 98 + 1 + 1 from rfl, rngI_succ, rngI_succ]
  unfold fstBrk
  rw [if_neg (by rw [brk1]; simp)]
  unfold fstBrk
  rw [show (1 + 1 : Int) = 2 from rfl, if_pos brk2]
theorem value30 : lowI (prodF 1 [30, 1]) (prodF 1 [15, 10, 6]) = [77636318760, 1] := by decide +kernel
theorem cmp_pair2 (a b : Int) : (D.tup [.int a, .int b]).cmp := cmp_tupI [a, b]
theorem tail_ok : wb_law { nx := fun _ => False, rt := fun d => d = .bl true } [.no, .no, .no, .no, .no] := by
  refine ⟨sz2.mpr trivial, sz3.mpr trivial, [30, 1], [15, 10, 6], rfl, rfl, row30, ?_⟩
  refine ⟨sz2.mpr trivial, sz2.mpr trivial, [4, 1], [3, 2], rfl, rfl, row4132, ?_⟩
  refine ⟨_, rfl, ⟨_, _, rfl, row30.2.2.2, ⟨_, rfl, ?_⟩⟩⟩
  rw [whole30]
  refine ite_f rfl ?_
  refine ⟨_, rfl, ⟨_, _, rfl, row4132.2.2.2, ?_⟩⟩
  rw [faultD41]
  refine ⟨sz2.mpr trivial, sz2.mpr trivial, sz4.mpr trivial, ⟨cmp_stairT _, cmp_stairT ((2, 3), (3, 4), -1), _, rfl, ?_⟩⟩
  refine ite_f (show (if true = true then !PyData.eqv (stairT ((2, 3), (3, 4), -1)).py (stairT ((2, 3), (3, 4), -1)).py else PyData.eqv (stairT ((2, 3), (3, 4), -1)).py (stairT ((2, 3), (3, 4), -1)).py) = false by rw [if_pos rfl, eqv_cmp (cmp_stairT _)]; rfl) ?_
  refine ⟨_, rfl, ⟨_, _, 17, rfl, row4132.2.2.2, whole41, pr17, by decide, by decide, ?_⟩⟩
  rw [wit41]
  refine ⟨cmp_int _, cmp_int _, _, rfl, ?_⟩
  refine ite_f (ne_self 12) ?_
  refine ⟨sz1.mpr trivial, sz3.mpr trivial, [3], [2, 1, 1], rfl, rfl, row3, ⟨_, _, rfl, row3.2.2.2, ?_⟩⟩
  rw [faultD3]
  refine ⟨sz2.mpr trivial, ⟨cmp_excD _, cmp_excD (-1), _, rfl, ?_⟩⟩
  refine ite_t (show (if false = true then !PyData.eqv (excD (-1)).py (excD (-1)).py else PyData.eqv (excD (-1)).py (excD (-1)).py) = true by rw [if_neg (by decide), eqv_cmp (cmp_excD _)]) ?_
  refine ⟨_, rfl, ⟨_, _, 100, rfl, row4132.2.2.2, by decide, by decide, ?_⟩⟩
  rw [first41]
  refine ⟨cmp_int _, cmp_int _, _, rfl, ?_⟩
  refine ite_t (by rw [if_neg (by decide), eqv_int]; rfl) ?_
  refine ⟨_, rfl, ⟨_, _, 1, rfl, row30.2.2.2.1, by decide, ?_⟩⟩
  rw [value30]
  refine ⟨sz2.mpr trivial, ⟨cmp_pair2 _ _, cmp_pair2 77636318760 1, ?_⟩⟩
  show D.bl (if false = true then !PyData.eqv (D.tup [.int 77636318760, .int 1]).py (D.tup [.int 77636318760, .int 1]).py else PyData.eqv (D.tup [.int 77636318760, .int 1]).py (D.tup [.int 77636318760, .int 1]).py) = .bl true
  rw [if_neg (by decide), eqv_cmp (cmp_pair2 _ _)]
end DL

namespace DL
open PySem PySem.Spec PyProof.Rows L2
/-! ### the bag, raw -/
def CPowG (i j : Int) : Prop := 0 ≤ j ∧ (Builtin.Int.intBits i : Int) * j ≤ 2 ^ 27
theorem op_powG {X : Cx} : OpR X (binaryOp .Pow) (rI CPowG fun i j => .int (i ^ j.toNat)) := opI fun _ _ _ _ _ _ _ hc q => pow_int hc.1 hc.2 q
def N_bag : List Str := ["_law_script", "_law_spot", "_law_cell", "_law_great", "_law_mixed"]
theorem sc_bag : FnScope N_bag ["_law_script", "_law_spot"] (defScope (topAt 71)) := ⟨rfl, rfl, rfl, by decide +kernel, rfl, by decide +kernel, by decide +kernel⟩
def spBag (K : PySem.W.Frag) : Sp := fun vs H Q _ => ∃ (a : Addr) (ns : List Int) (spot : Int), vs = [.ref a, .int spot] ∧ SqL K H a (ns.map V.int) ∧ ns.length ≤ 1000 ∧ 0 ≤ spot ∧ spot ≤ 1 ∧
  ∀ H' B, Le H H' → H B = none → IsBag H' B → Q (.ref B) H'
theorem cutV_ints (is : List Int) (lo hi : Option Int) : ∃ js : List Int, cutV (is.map V.int) lo hi = js.map V.int := by
  unfold cutV
  rw [List.length_map]
  generalize HT.sIx is.length 0 lo = a
  generalize HT.sIx is.length is.length hi - a = b
  exact ⟨(is.drop a).take b, by rw [List.map_take, List.map_drop]⟩
theorem big_pos : (0 : Int) < (10 ^ (45 : Int).toNat) ^ (13 : Int).toNat := by decide +kernel
theorem big_lt : ((10 : Int) ^ (45 : Int).toNat) ^ (13 : Int).toNat < 2 ^ 2000 := by decide +kernel
theorem ten18 : (0 : Int) ≤ 10 ^ (18 : Int).toNat := by decide +kernel
theorem max0 {e j b : Int} (he : e < b) (hj : 0 ≤ j) (hb : 0 < b) : 0 ≤ (if e - j > 0 then e - j else 0) ∧ (if e - j > 0 then e - j else 0) < b := by
  split <;> omega
theorem c45 : CPow 10 45 := by unfold CPow; decide
theorem c18 : CPow 10 18 := by unfold CPow; decide
theorem c13 : CPowG (10 ^ (45 : Int).toNat) 13 := by unfold CPowG; decide +kernel
def tCell (K : PySem.W.Frag) : TE := tIf (tTest (tOp (rI0 fun i j => V.bl (decide (i < j))) (tVar 1) (tCB (fun xs H Q => ∃ x n, xs = [x] ∧ LenV K x H n ∧ Q (V.int (n : Nat)) H) (tCons (tVar 0) tNil)))) (tOp (rIx K) (tVar 0) (tVar 1))
  (tOp (rI0 fun i j => V.int (i + j)) (tOp (rI0 fun i j => V.int (i + j)) (tCB (rOver K fun ns k => k ns.sum) (tCons (tSl (rSlL K) (tVar 0) tNoPart (tPart (tC (V.int 1)))) tNil)) (tOp (rI CMul fun i j => V.int (i * j)) (tC (V.int 151)) (tVar 1))) (tC (V.int 89)))
theorem asg2 (te : TE) (rest : TS) (T : Ends) (σ : L2.St) (H : Hp) (h : te σ H fun v H' => rest T (σ.set 2 (some v)) H') : tSeq (tAsg te (gName 2)) rest T σ H := h
theorem cell_ok {K : PySem.W.Frag} {H : Hp} {a : Addr} {ns : List Int} {spot : Int} (hS : SqL K H a (ns.map V.int)) (s0 : 0 ≤ spot) (s1 : spot ≤ 1) (R : VK) (k : ∀ (c : Int) (H' : Hp), Le H H' → R (.int c) H') : tCell K [some (.ref a), some (.int spot), none, none, none] H R := by
  refine ⟨_, rfl, _, rfl, _, (ns.map V.int).length, rfl, .inl ⟨_, hS, rfl⟩, ⟨_, _, rfl, rfl, ⟨_, rfl, ?_⟩⟩⟩
  by_cases hlt : spot < ((ns.map V.int).length : Int)
  · refine ite_t (decide_eq_true hlt) ?_
    have hl : spot.toNat < ns.length := by rw [List.length_map] at hlt; omega
    have e1 : (ns.map V.int)[spot.toNat]? = some (.int ns[spot.toNat]) := by rw [List.getElem?_map, List.getElem?_eq_getElem hl]; rfl
    have e2 := atI_nat _ spot.toNat e1
    rw [Int.toNat_of_nonneg s0] at e2
    exact ⟨_, rfl, _, rfl, .inl ⟨a, _, spot, _, rfl, rfl, hS, e2, k _ H (Le.refl H)⟩⟩
  · refine ite_f (decide_eq_false hlt) ?_
    obtain ⟨js, ej⟩ := cutV_ints ns none (some 1)
    have c1 : CMul 151 spot := .inl (by decide)
    refine ⟨_, rfl, _, rfl, ⟨a, _, rfl, hS, fun l hl => ?_⟩⟩
    rw [ej]
    exact ⟨l, js, rfl, .inl (SqL.of upd_same), ⟨_, rfl, ⟨_, _, rfl, rfl, c1, ⟨_, _, rfl, rfl, ⟨_, _, rfl, rfl, k _ _ (le_upd hl)⟩⟩⟩⟩⟩
section
variable {P : Program} {w : World} {K : PySem.W.Frag} {mg : Str → Option Value} {base : Heap} {Z : Zc}
theorem fn_bag (T : Txt P w K mg base Z) : ∃ f : Addr, mg "_law_bag" = some (.ref f) ∧ PySem.W.keepIn K (.ref f) = true ∧ FnR P w K mg base CX0 1 f (spBag K) := by
  obtain ⟨f, ⟨fd, FF, b⟩, hm, hk⟩ := T.d__law_bag
  refine ⟨f, hm, hk, ?_⟩
  have G : FnOk P w K mg base CX0 1 f fd ["_law_script", "_law_spot"] (spBag K) := FF.ok sc_bag (fun vs H Q E ⟨a, ns, spot, e, _⟩ => by subst e; rfl) fun cdv A outer s H vs Q E hr ⟨a, ns, spot, e, hS, hl, s0, s1, q⟩ => by
    refine ⟨_, pss_cons (ps_set (i := 2) sc_bag.nd rfl (.inl rfl) (pe_ifExp (pt_cmpR op_lt (pe_var (i := 1) rfl (.inl rfl)) (pe_callB call_len rfl T.h_len boot_len (pa_cons (pe_var (i := 0) rfl (.inl rfl)) pa_nil)) (by first | exact nobehind _ (by decide) (by decide) | rfl))
        (pe_ix ix_seq (pe_var (i := 0) rfl (.inl rfl)) (pe_var (i := 1) rfl (.inl rfl)) (by intro _ _; rfl))
        (pe_op op_add (pe_op op_add (pe_callB (sum_any rfl) rfl T.h_sum boot_sum (pa_cons (pe_slice sl_list (pe_var (i := 0) rfl (.inl rfl)) po_none (po_some pe_int)) pa_nil)) (pe_op op_mul pe_int (pe_var (i := 1) rfl (.inl rfl)))) pe_int)))
      (pss_cons (ps_set (i := 3) sc_bag.nd rfl (.inl rfl) (pe_op op_mod (pe_callTy call_int1 rfl T.h_int boot_int (pa_cons (pe_callB call_abs rfl T.h_abs boot_abs (pa_cons (pe_var (i := 2) rfl (.inl rfl)) pa_nil)) pa_nil)) (pe_op op_powG (pe_op op_pow pe_int pe_int) pe_int)))
      (pss_cons (ps_set (i := 4) sc_bag.nd rfl (.inl rfl) (pe_op op_add (pe_op op_add (pe_op op_add (pe_op op_mul (pe_op op_mod (pe_callTy call_int1 rfl T.h_int boot_int (pa_cons (pe_var (i := 3) rfl (.inl rfl)) pa_nil)) pe_int) pe_int) (pe_op op_mul pe_int (pe_var (i := 1) rfl (.inl rfl))))
        (pe_op op_mul pe_int (pe_callTy call_int1 rfl T.h_int boot_int (pa_cons (pe_cmpR op_lt (pe_var (i := 2) rfl (.inl rfl)) pe_int (by first | exact nobehind _ (by decide) (by decide) | rfl)) pa_nil)))) pe_int))
      (pss_one (ps_ret (pe_lst (pa_cons (pe_callB (call_max2 rfl) rfl T.h_max boot_max (pa_cons pe_int (pa_cons (pe_op op_sub (pe_var (i := 3) rfl (.inl rfl)) (pe_op op_pow pe_int pe_int)) pa_nil)))
        (pa_cons (pe_op op_mod (pe_callTy call_int1 rfl T.h_int boot_int (pa_cons (pe_var (i := 4) rfl (.inl rfl)) pa_nil)) pe_int) (pa_cons pe_int pa_nil)))))))), ?_⟩
    subst e
    refine asg2 _ _ _ _ _ (cell_ok hS s0 s1 _ fun cell H1 le => ?_)
    have g0 := Int.emod_nonneg (if cell < 0 then -cell else cell) (show ((10 : Int) ^ (45 : Int).toNat) ^ (13 : Int).toNat ≠ 0 from by have := big_pos; omega)
    have g1 := Int.emod_lt_of_pos (if cell < 0 then -cell else cell) big_pos
    have g2 := big_lt
    have cs : CMul 9029 spot := .inl (by decide)
    have cb : ∀ i : Int, CMul 53 i := fun i => .inl (by decide)
    have cl : ∀ i : Int, CMul i 1000457 := fun i => .inr (by decide)
    have p1 : (0 : Int) < 2305843009213693951 := by decide
    have p2 : (0 : Int) < 2305843009213693723 := by decide
    refine ⟨_, rfl, _, rfl, .inl ⟨_, rfl, ⟨_, _, rfl, rfl, c45, ⟨_, _, rfl, rfl, c13, ⟨_, _, rfl, rfl, big_pos, ?_⟩⟩⟩⟩⟩
    refine ⟨_, rfl, .inl ⟨_, rfl, ⟨_, _, rfl, rfl, p2, ⟨_, _, rfl, rfl, cl _, ⟨_, rfl, ⟨_, _, rfl, rfl, cs, ⟨_, _, rfl, rfl, ?_⟩⟩⟩⟩⟩⟩⟩
    refine ⟨_, rfl, ⟨_, _, rfl, rfl, .inr ⟨_, rfl, ⟨_, _, rfl, rfl, cb _, ⟨_, _, rfl, rfl, ⟨_, _, rfl, rfl, ?_⟩⟩⟩⟩⟩⟩
    refine ⟨_, rfl, ⟨_, _, rfl, rfl, c18, ⟨_, _, rfl, rfl, ⟨_, _, rfl, ?_⟩⟩⟩⟩
    refine ⟨_, rfl, .inl ⟨_, rfl, ⟨_, _, rfl, rfl, p1, ?_⟩⟩⟩
    refine ⟨sz3.mpr trivial, fun p hp => ?_⟩
    refine q _ p (le.trans (le_upd hp)) ?_ ⟨_, _, 0, upd_same, ?_, ?_, Int.emod_nonneg _ (by decide), ?_, by decide⟩
    · cases z : H p with
      | none => rfl
      | some o => rw [le p o z] at hp; cases hp
    · exact (max0 (Int.lt_trans g1 g2) ten18 (by decide)).1
    · exact (max0 (Int.lt_trans g1 g2) ten18 (by decide)).2
    · exact Int.lt_of_lt_of_le (Int.emod_lt_of_pos _ p1) (by decide)
  have := G.raw b .nil
  simpa only [List.append_nil] using this
end
end DL

namespace DL
open PySem PySem.Spec PyProof.Rows L2
/-! ### the law, raw -/
def spLaw (K : PySem.W.Frag) : Sp := fun vs H Q _ => ∃ (a : Addr) (ns : List Int), vs = [.ref a] ∧ SqL K H a (ns.map V.int) ∧ ns.length ≤ 63 ∧ ∀ H', Q (.bl true) H'
section
variable {P : Program} {w : World} {K : PySem.W.Frag} {mg : Str → Option Value} {base : Heap} {Z : Zc}
theorem pr_sp {X : Cx} {e : Expr} {es : List Expr} {x : Str} {sp : Sp} {ta : TA} {p pos : Pos} {k kk : Nat} {f : Addr} (hm : X.mg x = some (.ref f)) (hkp : PySem.W.keepIn X.K (.ref f) = true) (Fn : FnR X.prog X.w X.K X.mg X.base CX0 k f sp) (hr : Room kk X.A) (hk : k ≤ kk) (hg : Gl X x)
    (ha : PA X (e :: es) ta) (hdb : (x == ("__debug__" : Str)) = false := by decide)
    (he : starEach (e :: es) X.env = (false, eval e X.env) :: starEach es X.env := by rfl) (hpl : (backTo pos (starEach es X.env)).any (·.1) = false := by rfl) : PE X (.Call (.Name x p) (e :: es) [] pos) (fun σ H Q => ta σ H fun vs H1 => sp vs H1 Q fun _ _ _ => False) := by
  refine ⟨fun pins s σ H Q I hq => wpAny_Call_Name_kw (ld_glob I hg hm ?_ hdb)⟩
  refine PySem.W.callWith_K I.ok.mod.kin hkp ?_ he hpl
  refine thn (ha.run pos pins s σ H (fun vs H1 => sp vs H1 Q fun _ _ _ => False) I hq) fun us s1 ⟨vs, H1, I1, r, z⟩ => ⟨I1.kIn, ?_⟩
  exact wpAny_call (run_fnR Fn (hr.mono hk) pass0 I1 r z)
theorem right_ok {Z : Zc} {B : Addr} {H : Hp} {Q : VK} (hb : IsBag H B) (q : ∀ H', (∀ a o, a ≠ B → H a = some o → H' a = some o) → IsBag H' B → Q (.bl true) H') : spD Z sp__law_right [.ref B] H Q fun _ _ _ => False := by
  refine ⟨B, fun _ => none, [.bag], fun d => d = .bl true, ⟨fun a o e => (nomatch (show (none : Option HO) = some o from e)), rfl, hb⟩, Reps.cons rfl Reps.nil, ⟨rfl, rfl⟩, fun d F' H' v hd f r => ?_⟩
  subst hd
  cases (show v = V.bl true from r)
  exact q H' f.keep f.hd.bag
theorem ok_law (T : Txt P w K mg base Z) {f : Addr} {fd : FuncData} (FF : Fun K "law" "law" (topAt 97) f fd) : FnOk P w K mg base CX0 10 f fd ["_law_script"] (spLaw K) :=
  FF.ok sc_law (fun vs H Q E ⟨a, ns, e, _⟩ => by subst e; rfl) fun cdv A outer s H vs Q E hr ⟨a, ns, e, hS, hl, q⟩ => by
    obtain ⟨fb, hmb, hkb, Fb⟩ := fn_bag T
    refine ⟨_, pss_cons (ps_for PassesOwn.never rfl (pi_range1 rfl T.h_range (pa_cons (pe_callB (call_max2 rfl) rfl T.h_max boot_max (pa_cons pe_int (pa_cons (pe_callB (call_min2 rfl) rfl T.h_min boot_min (pa_cons pe_int (pa_cons (pe_callB call_len rfl T.h_len boot_len (pa_cons (pe_var (i := 0) rfl (.inl rfl)) pa_nil)) pa_nil))) pa_nil))) pa_nil))
        (pg_name (i := 1) sc_law.nd rfl (.inl rfl))
        (pss_cons (ps_set (i := 2) sc_law.nd rfl (.inl rfl) (pr_sp hmb hkb Fb hr (by decide) rfl (pa_cons (pe_var (i := 0) rfl (.inl rfl)) (pa_cons (pe_var (i := 1) rfl (.inl rfl)) pa_nil))))
        (pss_one (ps_if (PW.pt (pw_or (pt_not (pt_val (pr_call (cal__law_right T) hr (by decide) rfl (pa_cons (pe_var (i := 2) rfl (.inl rfl)) pa_nil)))) (pw_or1 (pt_not (pt_val (pr_call (cal__law_right T) hr (by decide) rfl (pa_cons (pe_var (i := 2) rfl (.inl rfl)) pa_nil))))))) (pss_one (ps_ret pe_bl)) pss_nil))))
      (b_law T f cdv A outer s H E hr), ?_⟩
    subst e
    refine ⟨_, rfl, _, (ns.map V.int).length, rfl, .inl ⟨_, hS, rfl⟩, ⟨_, _, rfl, ⟨_, _, rfl, ⟨_, rfl, ?_, ?_, ?_⟩⟩⟩⟩
    · split <;> split <;> omega
    · split <;> split <;> omega
    generalize hn : (if (if ((ns.map V.int).length : Int) < 2 then ((ns.map V.int).length : Int) else 2) > 1 then (if ((ns.map V.int).length : Int) < 2 then ((ns.map V.int).length : Int) else 2) else 1).toNat = n
    have n1 : 1 ≤ n ∧ n ≤ 2 := by
      rw [← hn]
      split <;> split <;> omega
    refine ⟨fun i m σ' H' => m = n - i ∧ i ≤ n ∧ Le H H' ∧ σ'.length = 5 ∧ σ'[0]? = some (some (.ref a)) ∧ (i = 0 ∨ ∃ B, IsBag H' B), ⟨n, rfl, Nat.zero_le _, Le.refl H, rfl, rfl, .inl rfl⟩, ?_⟩
    rintro i m σ' H' ⟨rfl, hi, le, len, e0, hb⟩
    by_cases hlt : i < n
    · refine .inr ⟨hlt, fun σ2 H2 => Le H H2 ∧ σ2.length = 5 ∧ σ2[0]? = some (some (.ref a)) ∧ ∃ B, IsBag H2 B, ?_, ?_⟩
      · rintro σ2 H2 ⟨le2, len2, e2, hb2⟩
        exact ⟨_, by omega, rfl, hlt, le2, len2, e2, .inr hb2⟩
      · intro x H2 y
        obtain ⟨y1, y2⟩ := y
        subst y1
        subst y2
        have g0 : (σ'.set 1 (some (.int (0 + (i : Nat)))))[0]? = some (some (.ref a)) := by rw [List.getElem?_set_ne (by decide)]; exact e0
        have g1 : (σ'.set 1 (some (.int (0 + (i : Nat)))))[1]? = some (some (.int (0 + (i : Nat)))) := List.getElem?_set_self (by omega)
        refine ⟨_, g0, _, g1, ⟨a, ns, _, rfl, le.sqL hS, by omega, by omega, by omega, fun H3 B le3 hB bag => ?_⟩⟩
        have gb : ((σ'.set 1 (some (.int (0 + (i : Nat))))).set 2 (some (.ref B)))[2]? = some (some (.ref B)) := List.getElem?_set_self (by rw [List.length_set]; omega)
        have le0 : Le H H3 := le.trans le3
        have nb : H B = none := by
          cases z : H B with
          | none => rfl
          | some o => rw [le B o z] at hB; cases hB
        refine ⟨_, gb, right_ok bag fun H4 k4 bag4 => ⟨_, rfl, ?_⟩⟩
        refine ite_f rfl ?_
        refine ⟨_, gb, right_ok bag4 fun H5 k5 bag5 => ⟨_, rfl, ?_⟩⟩
        refine ite_f rfl ?_
        refine ⟨fun b o e => ?_, by rw [List.length_set, List.length_set]; exact len, by rw [List.getElem?_set_ne (by decide)]; exact g0, B, bag5⟩
        have ne : b ≠ B := fun z => by rw [z, nb] at e; cases e
        exact k5 b o ne (k4 b o ne (le0 b o e))
    · refine .inl ⟨show n ≤ i by omega, ?_⟩
      rcases hb with hb | ⟨B, bag⟩
      · omega
      have hd : HdOk B (fun _ => none) H' := ⟨fun a o e => (nomatch (show (none : Option HO) = some o from e)), rfl, bag⟩
      refine ⟨B, H', fun _ => none, fun _ => none, fun _ => none, [.no, .no, .no, .no, .no], { nx := fun _ => False, rt := fun d => d = .bl true }, ⟨hd, Fr.refl hd, Le.refl _, ⟨len, fun _ => 0, fun i j s t e1 e2 o1 o2 _ => ?_, fun i s e => ?_⟩⟩, tail_ok, ⟨?_, ?_, ?_, ?_⟩⟩
      · have := List.mem_of_getElem? e1
        simp at this
        subst this
        exact o1.elim
      · have := List.mem_of_getElem? e
        simp at this
        subst this
        trivial
      · exact fun env σ F H p s => p.elim
      · intro d v F H2 hd2 f r
        subst hd2
        cases (show v = V.bl true from r)
        exact q H2
      · exact fun env σ F H p s => p.elim
      · exact fun env σ F H p s => p.elim
end
end DL

namespace DL
open PySem PySem.Spec PyProof.Rows L2 He
theorem FD.fun_ {K : PySem.W.Frag} {d : FD} (e : fnAt K (d.ad K) = d.val) (c : d.ok K = true) : ∃ fd, Fun K d.name d.qual d.st (d.ad K) fd := by
  obtain ⟨kp, c2⟩ := ba c
  unfold fnAt at e
  cases q : K.lookup (d.ad K) with
  | none =>
    rw [q] at c2
    cases c2
  | some o =>
    obtain ⟨oc, od, dt, osl⟩ := o
    rw [q] at c2 e
    cases dt with
    | func fd =>
      obtain ⟨n1, n2, n3, n4, n5, n6, n7, n8, n9, n10, n11, n12, n13, n14, n15⟩ := fd
      have e2 : (some (n1, n2, n3, n4, n5, n6, n7, n8, n15) : FnV) = some (d.name, d.qual, defArgs d.st, .stmts (defBody d.st), defScope d.st, mainGlobals, [], .none, builtinsNs) := e
      simp only [Option.some.injEq, Prod.mk.injEq] at e2
      obtain ⟨h1, h2, h3, h4, h5, h6, h7, h8, h9⟩ := e2
      subst h1 h2 h3 h4 h5 h6 h7 h8 h9
      exact ⟨_, ⟨⟨oc, od, n9, n10, n11, n12, n13, n14, osl, rfl, q, c2⟩, kp⟩⟩
    | _ => cases c2
theorem cls_of {K : PySem.W.Frag} (h : clsB K = true) : SlX.SCls K (cA K) := by
  obtain ⟨h1, h⟩ := ba h
  obtain ⟨h2, h⟩ := ba h
  obtain ⟨h3, h4⟩ := ba h
  exact ⟨h1, h2, h3, eqO_ok h4⟩
theorem isi_of {K : PySem.W.Frag} (h : isiB K = true) : SlX.SIsi K (cA K) := by
  obtain ⟨h1, h⟩ := ba h
  obtain ⟨h2, h⟩ := ba h
  obtain ⟨h3, h4⟩ := ba h
  exact ⟨eqO_ok h1, eqO_ok h2, of_decide_eq_true h3, of_decide_eq_true h4⟩
theorem slot_of {K : PySem.W.Frag} {f : Str} {i : Nat} (h : slotB f i K = true) : ∃ p, SlX.Slot1 K (cA K) f p i := by
  obtain ⟨h1, h⟩ := ba h
  obtain ⟨h2, h⟩ := ba h
  obtain ⟨h3, h⟩ := ba h
  obtain ⟨h4, h⟩ := ba h
  obtain ⟨h5, h6⟩ := ba h
  exact ⟨_, eqO_ok h1, eqO_ok h2, of_decide_eq_true h3, of_decide_eq_true h4, of_decide_eq_true h5, of_decide_eq_true h6⟩
theorem prop_of {K : PySem.W.Frag} {m : Str} (h : propB m K = true) : PySem.W.findIn K (.ref (cA K)) m = some (some (.ref (ma K (cA K) m))) ∧ PySem.W.specialIn K (.ref (ma K (cA K) m)) "__get__" = some (some (.builtin "property.__get__")) ∧ PySem.W.takesIn K (.ref (ma K (cA K) m)) = some true ∧
    ∃ rest, PySem.W.recIn K (ma K (cA K) m) "property" = some (.ref (pAd m K) :: rest) := by
  obtain ⟨h1, h⟩ := ba h
  obtain ⟨h2, h⟩ := ba h
  obtain ⟨h3, h4⟩ := ba h
  refine ⟨eqO_ok h1, eqO_ok h2, of_decide_eq_true h3, ?_⟩
  unfold pAd
  cases e : PySem.W.recIn K (ma K (cA K) m) "property" with
  | none =>
    rw [e] at h4
    cases h4
  | some l =>
    rw [e] at h4
    cases l with
    | nil => cases h4
    | cons v r =>
      cases v with
      | ref f => exact ⟨r, rfl⟩
      | _ => cases h4
theorem at_l {fs : List (PySem.W.Frag → Bool)} {K : PySem.W.Frag} (h : (fs.all fun f => f K) = true) (i : Nat) {f : PySem.W.Frag → Bool} (e : fs[i]? = some f := by rfl) : f K = true := List.all_eq_true.mp h f (List.mem_of_getElem? e)
theorem at_f {fs : List FD} {K : PySem.W.Frag} (h : fs.all (FD.ok K) = true) (v : (fs.map fun d => fnAt K (d.ad K)) = fs.map FD.val) (i : Nat) {d : FD} (e : fs[i]? = some d := by rfl) : d.ok K = true ∧ ∃ fd, Fun K d.name d.qual d.st (d.ad K) fd := by
  have h1 := List.all_eq_true.mp h d (List.mem_of_getElem? e)
  refine ⟨h1, FD.fun_ ?_ h1⟩
  have e2 : (fs.map fun d => fnAt K (d.ad K))[i]? = (fs.map FD.val)[i]? := by rw [v]
  rw [List.getElem?_map, List.getElem?_map, e] at e2
  exact Option.some.inj e2
theorem txt_of {P : Program} {w : World} {K : PySem.W.Frag} {mg : Str → Option Value} {base : Heap} {h : Heap} (X : K.In h) (G : h.Ns mainGlobals mg) (c : obsF K = valF) : Txt P w K mg base ⟨K, cA K⟩ := by
  have c1 := congrArg Prod.fst c
  have c2 : (obsF K).2 = valF.2 := congrArg Prod.snd c
  have c2 : [fn0.map fun d => fnAt K (d.ad K), fn1.map fun d => fnAt K (d.ad K), fn2.map fun d => fnAt K (d.ad K), fn3.map fun d => fnAt K (d.ad K)] = [fn0.map FD.val, fn1.map FD.val, fn2.map FD.val, fn3.map FD.val] := c2
  simp only [List.cons.injEq, and_true] at c2
  obtain ⟨v0, v1, v2, v3⟩ := c2
  obtain ⟨h0, c1⟩ := ba c1
  obtain ⟨h1, c1⟩ := ba c1
  obtain ⟨h2, c1⟩ := ba c1
  obtain ⟨h3, c1⟩ := ba c1
  obtain ⟨h4, c1⟩ := ba c1
  obtain ⟨h5, c1⟩ := ba c1
  obtain ⟨g0, c1⟩ := ba c1
  obtain ⟨g1, c1⟩ := ba c1
  obtain ⟨g2, g3⟩ := ba c1
  obtain ⟨k_is_plain, fd_is_plain, F_is_plain⟩ := at_f g0 v0 0
  obtain ⟨k_is_within, fd_is_within, F_is_within⟩ := at_f g0 v0 1
  obtain ⟨k_require_within, fd_require_within, F_require_within⟩ := at_f g0 v0 2
  obtain ⟨k_factors_in, fd_factors_in, F_factors_in⟩ := at_f g0 v0 3
  obtain ⟨k_is_prime_in, fd_is_prime_in, F_is_prime_in⟩ := at_f g0 v0 4
  obtain ⟨k_multiple_of, fd_multiple_of, F_multiple_of⟩ := at_f g0 v0 5
  obtain ⟨k_is_prime, fd_is_prime, F_is_prime⟩ := at_f g0 v0 6
  obtain ⟨k_require_prime, fd_require_prime, F_require_prime⟩ := at_f g0 v0 7
  obtain ⟨k_lowest_of, fd_lowest_of, F_lowest_of⟩ := at_f g0 v0 8
  obtain ⟨k_how_often, fd_how_often, F_how_often⟩ := at_f g0 v0 9
  obtain ⟨k_left_of, fd_left_of, F_left_of⟩ := at_f g0 v0 10
  obtain ⟨k_tells_row, fd_tells_row, F_tells_row⟩ := at_f g0 v0 11
  obtain ⟨k_is_side, fd_is_side, F_is_side⟩ := at_f g0 v0 12
  obtain ⟨k_side_text, fd_side_text, F_side_text⟩ := at_f g0 v0 13
  obtain ⟨k_counted, fd_counted, F_counted⟩ := at_f g0 v0 14
  obtain ⟨k_factorial_of, fd_factorial_of, F_factorial_of⟩ := at_f g0 v0 15
  obtain ⟨k_product_of_factorials, fd_product_of_factorials, F_product_of_factorials⟩ := at_f g0 v0 16
  obtain ⟨k_require_row, fd_require_row, F_require_row⟩ := at_f g0 v0 17
  obtain ⟨k_value_of, fd_value_of, F_value_of⟩ := at_f g0 v0 18
  obtain ⟨k_exponent_of_row, fd_exponent_of_row, F_exponent_of_row⟩ := at_f g0 v0 19
  obtain ⟨k_jump_in, fd_jump_in, F_jump_in⟩ := at_f g1 v1 0
  obtain ⟨k_places_over, fd_places_over, F_places_over⟩ := at_f g1 v1 1
  obtain ⟨k_stairs_in, fd_stairs_in, F_stairs_in⟩ := at_f g1 v1 2
  obtain ⟨k_depths_in, fd_depths_in, F_depths_in⟩ := at_f g1 v1 3
  obtain ⟨k_least_depth, fd_least_depth, F_least_depth⟩ := at_f g1 v1 4
  obtain ⟨k_fault_in, fd_fault_in, F_fault_in⟩ := at_f g1 v1 5
  obtain ⟨k_is_whole_in, fd_is_whole_in, F_is_whole_in⟩ := at_f g1 v1 6
  obtain ⟨k_is_whole, fd_is_whole, F_is_whole⟩ := at_f g1 v1 7
  obtain ⟨k_fault, fd_fault, F_fault⟩ := at_f g1 v1 8
  obtain ⟨k_primes_up_to, fd_primes_up_to, F_primes_up_to⟩ := at_f g1 v1 9
  obtain ⟨k_broken_in, fd_broken_in, F_broken_in⟩ := at_f g1 v1 10
  obtain ⟨k_is_broken_in, fd_is_broken_in, F_is_broken_in⟩ := at_f g1 v1 11
  obtain ⟨k_first_broken, fd_first_broken, F_first_broken⟩ := at_f g1 v1 12
  obtain ⟨k_broken_primes, fd_broken_primes, F_broken_primes⟩ := at_f g1 v1 13
  obtain ⟨k_exponents_at, fd_exponents_at, F_exponents_at⟩ := at_f g1 v1 14
  obtain ⟨k_witness_by, fd_witness_by, F_witness_by⟩ := at_f g1 v1 15
  obtain ⟨k_witness, fd_witness, F_witness⟩ := at_f g1 v1 16
  obtain ⟨k_is_witness, fd_is_witness, F_is_witness⟩ := at_f g1 v1 17
  obtain ⟨k__law_grab, fd__law_grab, F__law_grab⟩ := at_f g1 v1 18
  obtain ⟨k__law_one_of, fd__law_one_of, F__law_one_of⟩ := at_f g1 v1 19
  obtain ⟨k__law_without_shared, fd__law_without_shared, F__law_without_shared⟩ := at_f g2 v2 0
  obtain ⟨k__law_is_row_let, fd__law_is_row_let, F__law_is_row_let⟩ := at_f g2 v2 1
  obtain ⟨k__law_told_balanced, fd__law_told_balanced, F__law_told_balanced⟩ := at_f g2 v2 2
  obtain ⟨k__law_any_balanced, fd__law_any_balanced, F__law_any_balanced⟩ := at_f g2 v2 3
  obtain ⟨k__law_row_drawn, fd__law_row_drawn, F__law_row_drawn⟩ := at_f g2 v2 4
  obtain ⟨k__law_common, fd__law_common, F__law_common⟩ := at_f g2 v2 5
  obtain ⟨k__law_multiple, fd__law_multiple, F__law_multiple⟩ := at_f g2 v2 6
  obtain ⟨k__law_lowest, fd__law_lowest, F__law_lowest⟩ := at_f g2 v2 7
  obtain ⟨k__law_factorial, fd__law_factorial, F__law_factorial⟩ := at_f g2 v2 8
  obtain ⟨k__law_number_of, fd__law_number_of, F__law_number_of⟩ := at_f g2 v2 9
  obtain ⟨k__law_exponent, fd__law_exponent, F__law_exponent⟩ := at_f g2 v2 10
  obtain ⟨k__law_is_prime, fd__law_is_prime, F__law_is_prime⟩ := at_f g2 v2 11
  obtain ⟨k__law_next_prime, fd__law_next_prime, F__law_next_prime⟩ := at_f g2 v2 12
  obtain ⟨k__law_depth, fd__law_depth, F__law_depth⟩ := at_f g2 v2 13
  obtain ⟨k__law_by_size, fd__law_by_size, F__law_by_size⟩ := at_f g2 v2 14
  obtain ⟨k__law_stairs, fd__law_stairs, F__law_stairs⟩ := at_f g2 v2 15
  obtain ⟨k__law_is_whole, fd__law_is_whole, F__law_is_whole⟩ := at_f g2 v2 16
  obtain ⟨k__law_fault_due, fd__law_fault_due, F__law_fault_due⟩ := at_f g2 v2 17
  obtain ⟨k__law_broken_at, fd__law_broken_at, F__law_broken_at⟩ := at_f g2 v2 18
  obtain ⟨k__law_numbers_right, fd__law_numbers_right, F__law_numbers_right⟩ := at_f g2 v2 19
  obtain ⟨k__law_witness_right, fd__law_witness_right, F__law_witness_right⟩ := at_f g3 v3 0
  obtain ⟨k__law_great_right, fd__law_great_right, F__law_great_right⟩ := at_f g3 v3 1
  obtain ⟨k__law_right, fd__law_right, F__law_right⟩ := at_f g3 v3 2
  obtain ⟨k__law_bag, fd__law_bag, F__law_bag⟩ := at_f g3 v3 3
  obtain ⟨k_law, fd_law, F_law⟩ := at_f g3 v3 4
  obtain ⟨k_greatest, fd_greatest, F_greatest⟩ := at_f g3 v3 5
  obtain ⟨k_common, fd_common, F_common⟩ := at_f g3 v3 6
  obtain ⟨k_excess, fd_excess, F_excess⟩ := at_f g3 v3 7
  obtain ⟨k_value, fd_value, F_value⟩ := at_f g3 v3 8
  obtain ⟨k_exponent, fd_exponent, F_exponent⟩ := at_f g3 v3 9
  obtain ⟨k_exchanged, fd_exchanged, F_exchanged⟩ := at_f g3 v3 10
  obtain ⟨k___init__, fd___init__, F___init__⟩ := at_f g3 v3 11
  exact {
    z := ⟨rfl, cls_of (at_l h0 0), isi_of (at_l h0 1), slot_of (at_l h0 9), slot_of (at_l h0 5), of_decide_eq_true (at_l h0 2)⟩
    h_len := free_ok X G (at_l h0 18)
    h_sum := free_ok X G (at_l h0 19)
    h_max := free_ok X G (at_l h1 0)
    h_min := free_ok X G (at_l h1 1)
    h_abs := free_ok X G (at_l h1 2)
    h_all := free_ok X G (at_l h1 3)
    h_any := free_ok X G (at_l h1 4)
    h_sorted := free_ok X G (at_l h1 5)
    h_list := free_ok X G (at_l h1 6)
    h_tuple := free_ok X G (at_l h1 7)
    h_int := free_ok X G (at_l h1 8)
    h_range := free_ok X G (at_l h1 9)
    h_enumerate := free_ok X G (at_l h1 10)
    h_isinstance := free_ok X G (at_l h1 11)
    h_bool := free_ok X G (at_l h1 12)
    h_set := free_ok X G (at_l h1 13)
    c_MAX_PRIME := (int_ok X G (at_l h1 14)).elim fun t e => ⟨_, e, t, rfl⟩
    c_MAX_MEMBER := (int_ok X G (at_l h1 15)).elim fun t e => ⟨_, e, t, rfl⟩
    c_MAX_SIDE := (int_ok X G (at_l h1 16)).elim fun t e => ⟨_, e, t, rfl⟩
    c_MAX_COMMON := (int_ok X G (at_l h1 17)).elim fun t e => ⟨_, e, t, rfl⟩
    c_MOST_FACTORIAL := (int_ok X G (at_l h1 18)).elim fun t e => ⟨_, e, t, rfl⟩
    c_MOST_INDEX := (int_ok X G (at_l h1 19)).elim fun t e => ⟨_, e, t, rfl⟩
    c_MAX_BROKEN := (int_ok X G (at_l h2 0)).elim fun t e => ⟨_, e, t, rfl⟩
    c_MAX_PRIMED := (int_ok X G (at_l h2 1)).elim fun t e => ⟨_, e, t, rfl⟩
    c_STAIR := (str_ok X G (at_l h2 2)).elim fun t e => ⟨_, e, t, rfl⟩
    c_EXCESS := (str_ok X G (at_l h2 3)).elim fun t e => ⟨_, e, t, rfl⟩
    c_START := ⟨_, glo_ok X G (at_l h2 5), fun F => tupB_ok (at_l h2 4) F⟩
    c_LAST_END := ⟨_, glo_ok X G (at_l h2 7), fun F => tupB_ok (at_l h2 6) F⟩
    c_gcd := PySem.W.mg_of X G (eqO_ok (at_l h0 3))
    c_Quotient := glo_ok X G (at_l h0 14)
    d_is_plain := ⟨_, ⟨fd_is_plain, F_is_plain, Fun.binds F_is_plain fun _ _ _ _ _ _ us hl => match us, hl with | [_], _ => rfl⟩, glo_ok X G (at_l h2 8), (ba k_is_plain).1⟩
    d_is_within := ⟨_, ⟨fd_is_within, F_is_within, Fun.binds F_is_within fun _ _ _ _ _ _ us hl => match us, hl with | [_, _, _], _ => rfl⟩, glo_ok X G (at_l h2 9), (ba k_is_within).1⟩
    d_require_within := ⟨_, ⟨fd_require_within, F_require_within, Fun.binds F_require_within fun _ _ _ _ _ _ us hl => match us, hl with | [_, _, _], _ => rfl⟩, glo_ok X G (at_l h2 10), (ba k_require_within).1⟩
    d_factors_in := ⟨_, ⟨fd_factors_in, F_factors_in, Fun.binds F_factors_in fun _ _ _ _ _ _ us hl => match us, hl with | [_], _ => rfl⟩, glo_ok X G (at_l h2 11), (ba k_factors_in).1⟩
    d_is_prime_in := ⟨_, ⟨fd_is_prime_in, F_is_prime_in, Fun.binds F_is_prime_in fun _ _ _ _ _ _ us hl => match us, hl with | [_], _ => rfl⟩, glo_ok X G (at_l h2 12), (ba k_is_prime_in).1⟩
    d_multiple_of := ⟨_, ⟨fd_multiple_of, F_multiple_of, Fun.binds F_multiple_of fun _ _ _ _ _ _ us hl => match us, hl with | [_], _ => rfl⟩, glo_ok X G (at_l h2 13), (ba k_multiple_of).1⟩
    d_is_prime := ⟨_, ⟨fd_is_prime, F_is_prime, Fun.binds F_is_prime fun _ _ _ _ _ _ us hl => match us, hl with | [_], _ => rfl⟩, glo_ok X G (at_l h2 14), (ba k_is_prime).1⟩
    d_require_prime := ⟨_, ⟨fd_require_prime, F_require_prime, Fun.binds F_require_prime fun _ _ _ _ _ _ us hl => match us, hl with | [_], _ => rfl⟩, glo_ok X G (at_l h2 15), (ba k_require_prime).1⟩
    d_lowest_of := ⟨_, ⟨fd_lowest_of, F_lowest_of, Fun.binds F_lowest_of fun _ _ _ _ _ _ us hl => match us, hl with | [_, _], _ => rfl⟩, glo_ok X G (at_l h2 16), (ba k_lowest_of).1⟩
    d_how_often := ⟨_, ⟨fd_how_often, F_how_often, Fun.binds F_how_often fun _ _ _ _ _ _ us hl => match us, hl with | [_, _], _ => rfl⟩, glo_ok X G (at_l h2 17), (ba k_how_often).1⟩
    d_left_of := ⟨_, ⟨fd_left_of, F_left_of, Fun.binds F_left_of fun _ _ _ _ _ _ us hl => match us, hl with | [_, _], _ => rfl⟩, glo_ok X G (at_l h2 18), (ba k_left_of).1⟩
    d_tells_row := ⟨_, ⟨fd_tells_row, F_tells_row, Fun.binds F_tells_row fun _ _ _ _ _ _ us hl => match us, hl with | [_, _], _ => rfl⟩, glo_ok X G (at_l h2 19), (ba k_tells_row).1⟩
    d_is_side := ⟨_, ⟨fd_is_side, F_is_side, Fun.binds F_is_side fun _ _ _ _ _ _ us hl => match us, hl with | [_], _ => rfl⟩, glo_ok X G (at_l h3 0), (ba k_is_side).1⟩
    d_side_text := ⟨_, ⟨fd_side_text, F_side_text, Fun.binds F_side_text fun _ _ _ _ _ _ us hl => match us, hl with | [_], _ => rfl⟩, glo_ok X G (at_l h3 1), (ba k_side_text).1⟩
    d_counted := ⟨_, ⟨fd_counted, F_counted, Fun.binds F_counted fun _ _ _ _ _ _ us hl => match us, hl with | [_, _], _ => rfl⟩, glo_ok X G (at_l h3 2), (ba k_counted).1⟩
    d_factorial_of := ⟨_, ⟨fd_factorial_of, F_factorial_of, Fun.binds F_factorial_of fun _ _ _ _ _ _ us hl => match us, hl with | [_], _ => rfl⟩, glo_ok X G (at_l h3 3), (ba k_factorial_of).1⟩
    d_product_of_factorials := ⟨_, ⟨fd_product_of_factorials, F_product_of_factorials, Fun.binds F_product_of_factorials fun _ _ _ _ _ _ us hl => match us, hl with | [_, _], _ => rfl⟩, glo_ok X G (at_l h3 4), (ba k_product_of_factorials).1⟩
    d_require_row := ⟨_, ⟨fd_require_row, F_require_row, Fun.binds F_require_row fun _ _ _ _ _ _ us hl => match us, hl with | [_], _ => rfl⟩, glo_ok X G (at_l h3 5), (ba k_require_row).1⟩
    d_value_of := ⟨_, ⟨fd_value_of, F_value_of, Fun.binds F_value_of fun _ _ _ _ _ _ us hl => match us, hl with | [_, _], _ => rfl⟩, glo_ok X G (at_l h3 6), (ba k_value_of).1⟩
    d_exponent_of_row := ⟨_, ⟨fd_exponent_of_row, F_exponent_of_row, Fun.binds F_exponent_of_row fun _ _ _ _ _ _ us hl => match us, hl with | [_, _, _], _ => rfl⟩, glo_ok X G (at_l h3 7), (ba k_exponent_of_row).1⟩
    d_jump_in := ⟨_, ⟨fd_jump_in, F_jump_in, Fun.binds F_jump_in fun _ _ _ _ _ _ us hl => match us, hl with | [_, _], _ => rfl⟩, glo_ok X G (at_l h3 8), (ba k_jump_in).1⟩
    d_places_over := ⟨_, ⟨fd_places_over, F_places_over, Fun.binds F_places_over fun _ _ _ _ _ _ us hl => match us, hl with | [_, _], _ => rfl⟩, glo_ok X G (at_l h3 9), (ba k_places_over).1⟩
    d_stairs_in := ⟨_, ⟨fd_stairs_in, F_stairs_in, Fun.binds F_stairs_in fun _ _ _ _ _ _ us hl => match us, hl with | [_], _ => rfl⟩, glo_ok X G (at_l h3 10), (ba k_stairs_in).1⟩
    d_depths_in := ⟨_, ⟨fd_depths_in, F_depths_in, Fun.binds F_depths_in fun _ _ _ _ _ _ us hl => match us, hl with | [_], _ => rfl⟩, glo_ok X G (at_l h3 11), (ba k_depths_in).1⟩
    d_least_depth := ⟨_, ⟨fd_least_depth, F_least_depth, Fun.binds F_least_depth fun _ _ _ _ _ _ us hl => match us, hl with | [_], _ => rfl⟩, glo_ok X G (at_l h3 12), (ba k_least_depth).1⟩
    d_fault_in := ⟨_, ⟨fd_fault_in, F_fault_in, Fun.binds F_fault_in fun _ _ _ _ _ _ us hl => match us, hl with | [_], _ => rfl⟩, glo_ok X G (at_l h3 13), (ba k_fault_in).1⟩
    d_is_whole_in := ⟨_, ⟨fd_is_whole_in, F_is_whole_in, Fun.binds F_is_whole_in fun _ _ _ _ _ _ us hl => match us, hl with | [_], _ => rfl⟩, glo_ok X G (at_l h3 14), (ba k_is_whole_in).1⟩
    d_is_whole := ⟨_, ⟨fd_is_whole, F_is_whole, Fun.binds F_is_whole fun _ _ _ _ _ _ us hl => match us, hl with | [_], _ => rfl⟩, glo_ok X G (at_l h3 15), (ba k_is_whole).1⟩
    d_fault := ⟨_, ⟨fd_fault, F_fault, Fun.binds F_fault fun _ _ _ _ _ _ us hl => match us, hl with | [_], _ => rfl⟩, glo_ok X G (at_l h3 16), (ba k_fault).1⟩
    d_primes_up_to := ⟨_, ⟨fd_primes_up_to, F_primes_up_to, Fun.binds F_primes_up_to fun _ _ _ _ _ _ us hl => match us, hl with | [_], _ => rfl⟩, glo_ok X G (at_l h3 17), (ba k_primes_up_to).1⟩
    d_broken_in := ⟨_, ⟨fd_broken_in, F_broken_in, Fun.binds F_broken_in fun _ _ _ _ _ _ us hl => match us, hl with | [_, _], _ => rfl⟩, glo_ok X G (at_l h3 18), (ba k_broken_in).1⟩
    d_is_broken_in := ⟨_, ⟨fd_is_broken_in, F_is_broken_in, Fun.binds F_is_broken_in fun _ _ _ _ _ _ us hl => match us, hl with | [_, _], _ => rfl⟩, glo_ok X G (at_l h3 19), (ba k_is_broken_in).1⟩
    d_first_broken := ⟨_, ⟨fd_first_broken, F_first_broken, Fun.binds F_first_broken fun _ _ _ _ _ _ us hl => match us, hl with | [_, _], _ => rfl⟩, glo_ok X G (at_l h4 0), (ba k_first_broken).1⟩
    d_broken_primes := ⟨_, ⟨fd_broken_primes, F_broken_primes, Fun.binds F_broken_primes fun _ _ _ _ _ _ us hl => match us, hl with | [_, _], _ => rfl⟩, glo_ok X G (at_l h4 1), (ba k_broken_primes).1⟩
    d_exponents_at := ⟨_, ⟨fd_exponents_at, F_exponents_at, Fun.binds F_exponents_at fun _ _ _ _ _ _ us hl => match us, hl with | [_, _], _ => rfl⟩, glo_ok X G (at_l h4 2), (ba k_exponents_at).1⟩
    d_witness_by := ⟨_, ⟨fd_witness_by, F_witness_by, Fun.binds F_witness_by fun _ _ _ _ _ _ us hl => match us, hl with | [_, _], _ => rfl⟩, glo_ok X G (at_l h4 3), (ba k_witness_by).1⟩
    d_witness := ⟨_, ⟨fd_witness, F_witness, Fun.binds F_witness fun _ _ _ _ _ _ us hl => match us, hl with | [_, _], _ => rfl⟩, glo_ok X G (at_l h4 4), (ba k_witness).1⟩
    d_is_witness := ⟨_, ⟨fd_is_witness, F_is_witness, Fun.binds F_is_witness fun _ _ _ _ _ _ us hl => match us, hl with | [_, _, _], _ => rfl⟩, glo_ok X G (at_l h4 5), (ba k_is_witness).1⟩
    d__law_grab := ⟨_, ⟨fd__law_grab, F__law_grab, Fun.binds F__law_grab fun _ _ _ _ _ _ us hl => match us, hl with | [_, _], _ => rfl⟩, glo_ok X G (at_l h4 6), (ba k__law_grab).1⟩
    d__law_one_of := ⟨_, ⟨fd__law_one_of, F__law_one_of, Fun.binds F__law_one_of fun _ _ _ _ _ _ us hl => match us, hl with | [_, _], _ => rfl⟩, glo_ok X G (at_l h4 7), (ba k__law_one_of).1⟩
    d__law_without_shared := ⟨_, ⟨fd__law_without_shared, F__law_without_shared, Fun.binds F__law_without_shared fun _ _ _ _ _ _ us hl => match us, hl with | [_, _], _ => rfl⟩, glo_ok X G (at_l h4 8), (ba k__law_without_shared).1⟩
    d__law_is_row_let := ⟨_, ⟨fd__law_is_row_let, F__law_is_row_let, Fun.binds F__law_is_row_let fun _ _ _ _ _ _ us hl => match us, hl with | [_, _], _ => rfl⟩, glo_ok X G (at_l h4 9), (ba k__law_is_row_let).1⟩
    d__law_told_balanced := ⟨_, ⟨fd__law_told_balanced, F__law_told_balanced, Fun.binds F__law_told_balanced fun _ _ _ _ _ _ us hl => match us, hl with | [_], _ => rfl⟩, glo_ok X G (at_l h4 10), (ba k__law_told_balanced).1⟩
    d__law_any_balanced := ⟨_, ⟨fd__law_any_balanced, F__law_any_balanced, Fun.binds F__law_any_balanced fun _ _ _ _ _ _ us hl => match us, hl with | [_], _ => rfl⟩, glo_ok X G (at_l h4 11), (ba k__law_any_balanced).1⟩
    d__law_row_drawn := ⟨_, ⟨fd__law_row_drawn, F__law_row_drawn, Fun.binds F__law_row_drawn fun _ _ _ _ _ _ us hl => match us, hl with | [_], _ => rfl⟩, glo_ok X G (at_l h4 12), (ba k__law_row_drawn).1⟩
    d__law_common := ⟨_, ⟨fd__law_common, F__law_common, Fun.binds F__law_common fun _ _ _ _ _ _ us hl => match us, hl with | [_], _ => rfl⟩, glo_ok X G (at_l h4 13), (ba k__law_common).1⟩
    d__law_multiple := ⟨_, ⟨fd__law_multiple, F__law_multiple, Fun.binds F__law_multiple fun _ _ _ _ _ _ us hl => match us, hl with | [_], _ => rfl⟩, glo_ok X G (at_l h4 14), (ba k__law_multiple).1⟩
    d__law_lowest := ⟨_, ⟨fd__law_lowest, F__law_lowest, Fun.binds F__law_lowest fun _ _ _ _ _ _ us hl => match us, hl with | [_, _], _ => rfl⟩, glo_ok X G (at_l h4 15), (ba k__law_lowest).1⟩
    d__law_factorial := ⟨_, ⟨fd__law_factorial, F__law_factorial, Fun.binds F__law_factorial fun _ _ _ _ _ _ us hl => match us, hl with | [_], _ => rfl⟩, glo_ok X G (at_l h4 16), (ba k__law_factorial).1⟩
    d__law_number_of := ⟨_, ⟨fd__law_number_of, F__law_number_of, Fun.binds F__law_number_of fun _ _ _ _ _ _ us hl => match us, hl with | [_, _, _], _ => rfl⟩, glo_ok X G (at_l h4 17), (ba k__law_number_of).1⟩
    d__law_exponent := ⟨_, ⟨fd__law_exponent, F__law_exponent, Fun.binds F__law_exponent fun _ _ _ _ _ _ us hl => match us, hl with | [_, _, _, _], _ => rfl⟩, glo_ok X G (at_l h4 18), (ba k__law_exponent).1⟩
    d__law_is_prime := ⟨_, ⟨fd__law_is_prime, F__law_is_prime, Fun.binds F__law_is_prime fun _ _ _ _ _ _ us hl => match us, hl with | [_], _ => rfl⟩, glo_ok X G (at_l h4 19), (ba k__law_is_prime).1⟩
    d__law_next_prime := ⟨_, ⟨fd__law_next_prime, F__law_next_prime, Fun.binds F__law_next_prime fun _ _ _ _ _ _ us hl => match us, hl with | [_], _ => rfl⟩, glo_ok X G (at_l h5 0), (ba k__law_next_prime).1⟩
    d__law_depth := ⟨_, ⟨fd__law_depth, F__law_depth, Fun.binds F__law_depth fun _ _ _ _ _ _ us hl => match us, hl with | [_, _, _], _ => rfl⟩, glo_ok X G (at_l h5 1), (ba k__law_depth).1⟩
    d__law_by_size := ⟨_, ⟨fd__law_by_size, F__law_by_size, Fun.binds F__law_by_size fun _ _ _ _ _ _ us hl => match us, hl with | [_], _ => rfl⟩, glo_ok X G (at_l h5 2), (ba k__law_by_size).1⟩
    d__law_stairs := ⟨_, ⟨fd__law_stairs, F__law_stairs, Fun.binds F__law_stairs fun _ _ _ _ _ _ us hl => match us, hl with | [_, _], _ => rfl⟩, glo_ok X G (at_l h5 3), (ba k__law_stairs).1⟩
    d__law_is_whole := ⟨_, ⟨fd__law_is_whole, F__law_is_whole, Fun.binds F__law_is_whole fun _ _ _ _ _ _ us hl => match us, hl with | [_, _], _ => rfl⟩, glo_ok X G (at_l h5 4), (ba k__law_is_whole).1⟩
    d__law_fault_due := ⟨_, ⟨fd__law_fault_due, F__law_fault_due, Fun.binds F__law_fault_due fun _ _ _ _ _ _ us hl => match us, hl with | [_, _], _ => rfl⟩, glo_ok X G (at_l h5 5), (ba k__law_fault_due).1⟩
    d__law_broken_at := ⟨_, ⟨fd__law_broken_at, F__law_broken_at, Fun.binds F__law_broken_at fun _ _ _ _ _ _ us hl => match us, hl with | [_, _, _], _ => rfl⟩, glo_ok X G (at_l h5 6), (ba k__law_broken_at).1⟩
    d__law_numbers_right := ⟨_, ⟨fd__law_numbers_right, F__law_numbers_right, Fun.binds F__law_numbers_right fun _ _ _ _ _ _ us hl => match us, hl with | [_, _, _, _], _ => rfl⟩, glo_ok X G (at_l h5 7), (ba k__law_numbers_right).1⟩
    d__law_witness_right := ⟨_, ⟨fd__law_witness_right, F__law_witness_right, Fun.binds F__law_witness_right fun _ _ _ _ _ _ us hl => match us, hl with | [_, _, _, _, _], _ => rfl⟩, glo_ok X G (at_l h5 8), (ba k__law_witness_right).1⟩
    d__law_great_right := ⟨_, ⟨fd__law_great_right, F__law_great_right, Fun.binds F__law_great_right fun _ _ _ _ _ _ us hl => match us, hl with | [_, _, _, _], _ => rfl⟩, glo_ok X G (at_l h5 9), (ba k__law_great_right).1⟩
    d__law_right := ⟨_, ⟨fd__law_right, F__law_right, Fun.binds F__law_right fun _ _ _ _ _ _ us hl => match us, hl with | [_], _ => rfl⟩, glo_ok X G (at_l h5 10), (ba k__law_right).1⟩
    d__law_bag := ⟨_, ⟨fd__law_bag, F__law_bag, Fun.binds F__law_bag fun _ _ _ _ _ _ us hl => match us, hl with | [_, _], _ => rfl⟩, glo_ok X G (at_l h5 11), (ba k__law_bag).1⟩
    d_law := ⟨_, ⟨fd_law, F_law, Fun.binds F_law fun _ _ _ _ _ _ us hl => match us, hl with | [_], _ => rfl⟩, glo_ok X G (at_l h5 12), (ba k_law).1⟩
    p_greatest := (fun hp => ⟨_, _, hp.1, hp.2.1, hp.2.2.1, hp.2.2.2, ⟨fd_greatest, F_greatest, Fun.binds F_greatest fun _ _ _ _ _ _ us hl => match us, hl with | [_], _ => rfl⟩⟩) (prop_of (at_l h0 10))
    p_common := (fun hp => ⟨_, _, hp.1, hp.2.1, hp.2.2.1, hp.2.2.2, ⟨fd_common, F_common, Fun.binds F_common fun _ _ _ _ _ _ us hl => match us, hl with | [_], _ => rfl⟩⟩) (prop_of (at_l h0 11))
    p_excess := (fun hp => ⟨_, _, hp.1, hp.2.1, hp.2.2.1, hp.2.2.2, ⟨fd_excess, F_excess, Fun.binds F_excess fun _ _ _ _ _ _ us hl => match us, hl with | [_], _ => rfl⟩⟩) (prop_of (at_l h0 12))
    m_value := ⟨_, meth_ok (at_l h0 15), ⟨fd_value, F_value, Fun.binds F_value fun _ _ _ _ _ _ us hl => match us, hl with | [_, _], _ => rfl⟩⟩
    m_exponent := ⟨_, meth_ok (at_l h0 16), ⟨fd_exponent, F_exponent, Fun.binds F_exponent fun _ _ _ _ _ _ us hl => match us, hl with | [_, _, _], _ => rfl⟩⟩
    m_exchanged := ⟨_, meth_ok (at_l h0 17), ⟨fd_exchanged, F_exchanged, Fun.binds F_exchanged fun _ _ _ _ _ _ us hl => match us, hl with | [_], _ => rfl⟩⟩
    init := ⟨_, mkr_ok (at_l h0 13), ⟨fd___init__, F___init__, Fun.binds F___init__ fun _ _ _ _ _ _ us hl => match us, hl with | [_, _, _], _ => rfl⟩⟩
    s_own_all := slot_of (at_l h0 4)
    s_own_bottoms := slot_of (at_l h0 5)
    s_own_members := slot_of (at_l h0 6)
    s_own_pairs := slot_of (at_l h0 7)
    s_own_text := slot_of (at_l h0 8)
    s_own_tops := slot_of (at_l h0 9) }
end DL

set_option maxHeartbeats 0
namespace DL
open PySem PySem.Spec PyProof.Rows L2
theorem law_binds {K : PySem.W.Frag} {f : Addr} {fd : FuncData} (F : Fun K "law" "law" (topAt 97) f fd) (s : Shared) (v : Value) : BindsTo s fd ⟨[v], []⟩ [("_law_script", v)] := by
  obtain ⟨oc, od, kV, doc, pm, an, cdv, ct, osl, rfl, lk, hcd⟩ := F.ex
  exact .of_eq rfl
theorem law_facts {P : Program} {w : World} {K : PySem.W.Frag} {mg : Str → Option Value} {h : Heap} {fa : Addr} (X : K.In h) (G : h.Ns mainGlobals mg) (hfa : mg ("law" : Str) = some (.ref fa)) (c : obsF K = valF) :
    ∃ fd : FuncData, (∀ (s : Shared) (v : Value), BindsTo s fd ⟨[v], []⟩ [("_law_script", v)]) ∧ ∀ base : Heap, K.In base → base.Ns mainGlobals mg → FnOk P w K mg base CX0 10 fa fd ["_law_script"] (spLaw K) := by
  have T0 : Txt P w K mg h ⟨K, cA K⟩ := txt_of X G c
  obtain ⟨f, ⟨fd, F, b⟩, hm, hk⟩ := T0.d_law
  rw [hfa] at hm
  cases hm
  exact ⟨fd, law_binds F, fun base _ _ => ok_law (txt_of (base := base) X G c) F⟩
end DL
open PySem PySem.W PySem.Calls PyProof.Rows
theorem PySem.Challenge.cw_wholerises_k88_whole_or_not_with_papers_holds : PySem.Challenge.rw_wholerises_k88_whole_or_not_with_papers.Holds := by
  w_on; o_law
  refine HandSHeadRun.head_imp (r := OpenLaw.row PySem.Challenge.rw_wholerises_k88_whole_or_not_with_papers) (q := HH.qv) (H := DL.hkF) (ob := DL.obF) (M := 20000) (loose := HH.names) (d := HandSHeadRun.topDef (OpenLaw.row PySem.Challenge.rw_wholerises_k88_whole_or_not_with_papers).prog 97) (kwd := []) DL.obF_eq HH.run
    (by kernel_rfl) (by kernel_rfl) (by kernel_rfl) (by rfl) (by first | assumption | decide +kernel) (by decide +kernel) ⟨rfl, rfl, rfl, rfl, rfl, by decide +kernel⟩ ?hw ?hc
  case hw => w_witness2
  case hc =>
    refine L2.walk_ofE (l := PySem.Challenge.rw_wholerises_k88_whole_or_not_with_papers) (n := 63) (k := 10) (x := "_law_script") (CX := L2.CX0) rfl (by decide) (by kernel_rfl) ⟨rfl, by decide, by decide⟩ ?F (fun _ _ _ _ z => z)
    intro w mg fa h Y G hmg0
    obtain ⟨K, KX, c⟩ := Y
    have hmg : mg ("law" : PySem.Str) = some (.ref fa) := by
      have e : (HandSHeadRun.topDef (OpenLaw.row PySem.Challenge.rw_wholerises_k88_whole_or_not_with_papers).prog 97).name = ("law" : PySem.Str) := by kernel_rfl
      rw [← e]
      exact hmg0
    obtain ⟨fd, hb, hF⟩ := DL.law_facts (P := (PySem.Challenge.rw_wholerises_k88_whole_or_not_with_papers).prog) (w := w) KX G hmg c
    exact ⟨K, fd, DL.spLaw K, KX, hb, fun H a ns hl _ hS => ⟨a, ns, rfl, hS, hl, fun _ => rfl⟩, hF⟩
