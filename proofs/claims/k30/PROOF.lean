import PyProof.Rows.All
import Wide.All
import OpenK.AllK
import Wide.FinOn
import HandS.HeadHook1
import HandS.HeadHook2
import HandS.ExcInit
import HandS.ExcField
import HandS.IsInst
import HandS.TryOnly
import KE.KExcIs
import HandS.Words
import HandS.HeadHook4
import HandS.HeadEnd
import HandS.Head2
import HandS.EndBits
import HandS.Codes
import PySem.Challenge.RW_rimturns_k30_farthest_of_two
import HandS.Iter
import KE.GoesEnum
import HandS.ForMost
import HandS.Wide
import HandS.TupAny
import HandS.TupLe
import HandS.TupSets
import HandS.Zip
import HandS.Style
import HandS.Deep
import HandS.More
import HandS.SetFor
import HandS.Strs
import HandS.GenList
import KE.KDictZip
import PyProof.LongRange
import PyProof.MaxThree
import HandS.SortInts
import HandS.Small
import HandS.Conv
import PyProof.DictMoreH
import KE.DataMinMax
import KE.DatumOrd
import HandS.SortKw
import HandS.SortRule
import HandS.Defaults
import HandS.HotCalls
import HandS.HeadWalk
import PyProof.ReprBulk
set_option Elab.async false
set_option linter.all false
set_option maxRecDepth 100000
set_option maxHeartbeats 4000000
namespace DL
open PySem L2 PySem.Spec PyProof.Rows
abbrev Frg := PySem.W.Frag
/-! the program's own refusals: what their classes must say -/
/-- the fields of a refusal's class -/
def xFlds : String → List Str
  | "NoPaper" => ["word", "number"]
  | "NoRim" => ["word"]
  | "NoWay" => ["word"]
  | "NoNumber" => ["number"]
  | "NoText" => ["row", "word"]
  | "NoRow" => ["row"]
  | _ => []
abbrev clsA (K : Frg) (c : String) : Addr := He.ga K (Str.ofString c)
/-- the names of classes that may be asked for -/
def exAll : List String := ["RimError", "NoRim", "NoPaper", "NoWay", "NoNumber", "NoDeed", "NoText", "NoRow", "ValueError"]
def subX (c d : String) : Bool := decide (c = d) || decide (d = "RimError") || decide (d = "ValueError")
def clsX (K : Frg) (d : String) : Value := if d = "ValueError" then .type "ValueError" else .ref (clsA K d)
structure XcC (K : Frg) (c : String) : Prop where
  oex : OexC K (clsA K c)
  xf : XfC K (clsA K c)
  fn : ∀ f ∈ xFlds c, PySem.W.findIn K (.ref (clsA K c)) f = some none
  cl : (PySem.W.clsIn K (clsA K c)).isSome = true
  ha : PySem.W.findIn K (.ref (clsA K c)) "__class__" = some (some (.builtin "object.__class__"))
  hn : PySem.W.specialIn K (.builtin "object.__class__") "__get__" = some (some (.builtin "getset_descriptor.__get__"))
  ht : PySem.W.takesIn K (.builtin "object.__class__") = some true
  hm : PySem.W.mroIn K (clsA K c) (.type "object") = some true
  ini : PySem.W.findIn K (.ref (clsA K c)) "__init__" = some (some (.ref (He.fAd K (Str.ofString c, some "__init__"))))
  tyi : PySem.W.typeIn K (.ref (He.fAd K (Str.ofString c, some "__init__"))) = some (.type "function")
/-- a class that is asked for -/
structure XcT (K : Frg) (c d : String) : Prop where
  exm : PySem.W.exmOne K (.ref (clsA K c)) (clsX K d) = some (subX c d)
  kit : PySem.W.kitOne K (.ref (clsA K c)) (clsX K d) = some (subX c d)
/-- the name stands for a class here -/
def okCls (K : Frg) (d : String) : Bool := decide (d = "ValueError") || decide (PySem.W.nsIn K mainGlobals (Str.ofString d) = some (some (.ref (clsA K d))))
def XAll (K : Frg) (c : String) : Prop := ∀ d ∈ exAll, okCls K d = true → XcT K c d
/-- all that is asked of the text's classes -/
structure XcA (K : Frg) (c : String) : Prop where
  cc : XcC K c
  al : XAll K c
/-! the head's hook: with the statics, and one more Bool -/
end DL

set_option Elab.async false
set_option linter.all false
namespace DL
open PySem
end DL

set_option Elab.async false
set_option linter.all false
set_option maxRecDepth 100000
set_option maxHeartbeats 8000000
namespace T_k30
open PySem L2 PySem.Spec PyProof.Rows DL
def top (i : Nat) : Stmt := PySem.Challenge.pw_rimturns_k30_farthest_of_two.main.body.getD i (.Pass ⟨0, 0, 0, 0⟩)
abbrev st_sides : Stmt := top 1
abbrev st_squared_between : Stmt := top 3
abbrev st_farthest_two : Stmt := top 5
abbrev st_determinant : Stmt := top 11
abbrev st_led : Stmt := top 12
abbrev st_steps_of : Stmt := top 14
abbrev st_comes_ahead : Stmt := top 15
abbrev st_merged : Stmt := top 16
abbrev st_sum_of : Stmt := top 17
abbrev st_law_feed : Stmt := top 19
abbrev st_law_draw : Stmt := top 20
abbrev st_law_far : Stmt := top 21
abbrev st_law_turn : Stmt := top 22
abbrev st_law_apart : Stmt := top 23
abbrev st_law_wrapped : Stmt := top 24
abbrev st_law_led : Stmt := top 25
abbrev st_law_bowl : Stmt := top 26
abbrev st_law_even : Stmt := top 27
abbrev st_law_line : Stmt := top 28
abbrev st_law_cloud : Stmt := top 29
abbrev st_law_rim : Stmt := top 30
abbrev st_law_great : Stmt := top 31
abbrev st_law_some_rim : Stmt := top 32
abbrev st_law_due : Stmt := top 33
abbrev st_law_doubled : Stmt := top 34
abbrev st_law_right : Stmt := top 35
abbrev st_law : Stmt := top 36
def dd_sides : He.DefD := ⟨("sides", none), "sides", "sides", defArgs st_sides, defBody st_sides, defScope st_sides, [], []⟩
def dd_squared_between : He.DefD := ⟨("squared_between", none), "squared_between", "squared_between", defArgs st_squared_between, defBody st_squared_between, defScope st_squared_between, [], []⟩
def dd_farthest_two : He.DefD := ⟨("farthest_two", none), "farthest_two", "farthest_two", defArgs st_farthest_two, defBody st_farthest_two, defScope st_farthest_two, [], []⟩
def dd_determinant : He.DefD := ⟨("determinant", none), "determinant", "determinant", defArgs st_determinant, defBody st_determinant, defScope st_determinant, [], []⟩
def dd_led : He.DefD := ⟨("led", none), "led", "led", defArgs st_led, defBody st_led, defScope st_led, [], []⟩
def dd_steps_of : He.DefD := ⟨("steps_of", none), "steps_of", "steps_of", defArgs st_steps_of, defBody st_steps_of, defScope st_steps_of, [], []⟩
def dd_comes_ahead : He.DefD := ⟨("comes_ahead", none), "comes_ahead", "comes_ahead", defArgs st_comes_ahead, defBody st_comes_ahead, defScope st_comes_ahead, [], []⟩
def dd_merged : He.DefD := ⟨("merged", none), "merged", "merged", defArgs st_merged, defBody st_merged, defScope st_merged, [], []⟩
def dd_sum_of : He.DefD := ⟨("sum_of", none), "sum_of", "sum_of", defArgs st_sum_of, defBody st_sum_of, defScope st_sum_of, [], []⟩
def dd_law_feed : He.DefD := ⟨("_law_feed", none), "_law_feed", "_law_feed", defArgs st_law_feed, defBody st_law_feed, defScope st_law_feed, [], []⟩
def dd_law_draw : He.DefD := ⟨("_law_draw", none), "_law_draw", "_law_draw", defArgs st_law_draw, defBody st_law_draw, defScope st_law_draw, [], []⟩
def dd_law_far : He.DefD := ⟨("_law_far", none), "_law_far", "_law_far", defArgs st_law_far, defBody st_law_far, defScope st_law_far, [], []⟩
def dd_law_turn : He.DefD := ⟨("_law_turn", none), "_law_turn", "_law_turn", defArgs st_law_turn, defBody st_law_turn, defScope st_law_turn, [], []⟩
def dd_law_apart : He.DefD := ⟨("_law_apart", none), "_law_apart", "_law_apart", defArgs st_law_apart, defBody st_law_apart, defScope st_law_apart, [], []⟩
def dd_law_wrapped : He.DefD := ⟨("_law_wrapped", none), "_law_wrapped", "_law_wrapped", defArgs st_law_wrapped, defBody st_law_wrapped, defScope st_law_wrapped, [], []⟩
def dd_law_led : He.DefD := ⟨("_law_led", none), "_law_led", "_law_led", defArgs st_law_led, defBody st_law_led, defScope st_law_led, [], []⟩
def dd_law_bowl : He.DefD := ⟨("_law_bowl", none), "_law_bowl", "_law_bowl", defArgs st_law_bowl, defBody st_law_bowl, defScope st_law_bowl, [], []⟩
def dd_law_even : He.DefD := ⟨("_law_even", none), "_law_even", "_law_even", defArgs st_law_even, defBody st_law_even, defScope st_law_even, [], []⟩
def dd_law_line : He.DefD := ⟨("_law_line", none), "_law_line", "_law_line", defArgs st_law_line, defBody st_law_line, defScope st_law_line, [], []⟩
def dd_law_cloud : He.DefD := ⟨("_law_cloud", none), "_law_cloud", "_law_cloud", defArgs st_law_cloud, defBody st_law_cloud, defScope st_law_cloud, [], []⟩
def dd_law_rim : He.DefD := ⟨("_law_rim", none), "_law_rim", "_law_rim", defArgs st_law_rim, defBody st_law_rim, defScope st_law_rim, [], []⟩
def dd_law_great : He.DefD := ⟨("_law_great", none), "_law_great", "_law_great", defArgs st_law_great, defBody st_law_great, defScope st_law_great, [], []⟩
def dd_law_some_rim : He.DefD := ⟨("_law_some_rim", none), "_law_some_rim", "_law_some_rim", defArgs st_law_some_rim, defBody st_law_some_rim, defScope st_law_some_rim, [], []⟩
def dd_law_due : He.DefD := ⟨("_law_due", none), "_law_due", "_law_due", defArgs st_law_due, defBody st_law_due, defScope st_law_due, [], []⟩
def dd_law_doubled : He.DefD := ⟨("_law_doubled", none), "_law_doubled", "_law_doubled", defArgs st_law_doubled, defBody st_law_doubled, defScope st_law_doubled, [], []⟩
def dd_law_right : He.DefD := ⟨("_law_right", none), "_law_right", "_law_right", defArgs st_law_right, defBody st_law_right, defScope st_law_right, [], []⟩
def dd_law : He.DefD := ⟨("law", none), "law", "law", defArgs st_law, defBody st_law, defScope st_law, [], []⟩
def fnl : List He.DefD := [dd_sides, dd_squared_between, dd_farthest_two, dd_determinant, dd_led, dd_steps_of, dd_comes_ahead, dd_merged, dd_sum_of, dd_law_feed, dd_law_draw, dd_law_far, dd_law_turn, dd_law_apart, dd_law_wrapped, dd_law_led, dd_law_bowl, dd_law_even, dd_law_line, dd_law_cloud, dd_law_rim, dd_law_great, dd_law_some_rim, dd_law_due, dd_law_doubled, dd_law_right, dd_law]
def fal : List He.Fa := [.glo "sides", .glo "squared_between", .glo "farthest_two", .glo "determinant", .glo "led", .glo "steps_of", .glo "comes_ahead", .glo "merged", .glo "sum_of", .glo "_law_feed", .glo "_law_draw", .glo "_law_far", .glo "_law_turn", .glo "_law_apart", .glo "_law_wrapped", .glo "_law_led", .glo "_law_bowl", .glo "_law_even", .glo "_law_line", .glo "_law_cloud", .glo "_law_rim", .glo "_law_great", .glo "_law_some_rim", .glo "_law_due", .glo "_law_doubled", .glo "_law_right", .glo "law", .free (Str.ofString "len"), .free (Str.ofString "abs"), .free (Str.ofString "max"), .free (Str.ofString "min"), .free (Str.ofString "sum"), .free (Str.ofString "all"), .free (Str.ofString "any"), .free (Str.ofString "repr"), .free (Str.ofString "str"), .free (Str.ofString "int"), .free (Str.ofString "list"), .free (Str.ofString "tuple"), .free (Str.ofString "sorted"), .free (Str.ofString "set"), .free (Str.ofString "isinstance"), .free (Str.ofString "range"), .free (Str.ofString "zip"), .free (Str.ofString "enumerate"), .free (Str.ofString "bool"), .free (Str.ofString "reversed")]
abbrev RR : PySem.W.OpenRow := PySem.W.OpenLaw.row PySem.Challenge.rw_rimturns_k30_farthest_of_two
abbrev hk : PySem.W.Hook := He.hookD 4 fal fnl
def obs_ (s : PySem.W.SharedT) : He.AlD := He.obsDG 4 fal fnl (HandSHeadRun.getT s)
theorem obs_eq (s : PySem.W.SharedT) : obs_ s = hk.obs s.abs := He.obsDG_eq (HandSHeadRun.getT_eq s)
def loose_ : List Str := (["sides", "squared_between", "farthest_two", "determinant", "led", "steps_of", "comes_ahead", "merged", "sum_of", "_law_feed", "_law_draw", "_law_far"] : List Str) ++ (["_law_turn", "_law_apart", "_law_wrapped", "_law_led", "_law_bowl", "_law_even", "_law_line", "_law_cloud", "_law_rim", "_law_great", "_law_some_rim", "_law_due"] : List Str) ++ (["_law_doubled", "_law_right", "RimError", "NoWay", "FLAT"] : List Str)
theorem run_ (w : World) : HandSHeadRun.RunEq RR (PySem.W.view RR.prog [36]) hk obs_ 9000 loose_ w := by
  intro os
  kernel_rfl
end T_k30

set_option Elab.async false
set_option linter.all false
set_option maxRecDepth 100000
set_option maxHeartbeats 5000000
/-! tuples walked by enumerate; two ways to walk joined -/
namespace L2
open PySem PyProof.Rows PySem.Spec
abbrev enumObj (it : Addr) : Obj := { cls := .type "enumerate", data := .fields #[.none, .bool false, .ref it, rawInt 0, .none, .none] }
theorem enum_new {src : Value} {io : Obj} {F : Heap → Prop} (B : Begins src io F) :
    Meets (Builtin.«enumerate.__new__» ⟨[.type "enumerate", src], []⟩) (fun _ R s => F s.heap ∧ R (.ok (.ret (.ref (s.heap.push io).objs.size))) { s with heap := (s.heap.push io).push (enumObj s.heap.objs.size) }) := by
  refine .of_wp ?_
  rintro pr ww aa R ⟨hp, gs, dr, tk, os⟩ ⟨hF, hR⟩
  have hsub := sub_enumerate
  have go {aa' : Around} {E' Q' : Value → Shared → Prop} (k : Q' (.ref hp.objs.size) ⟨hp.push io, gs, dr, tk, os⟩) : wpAny (model pr ww) aa' (pyIter src) Q' E' ⟨hp, gs, dr, tk, os⟩ := B.iter pr ww _ _ ⟨hp, gs, dr, tk, os⟩ _ hF k
  wp_walk using go
  apply wpAny_stack_any
  intro stk
  apply wpAny_pure
  split
  · rename_i cl _ _ _ _ _
    cases (cl == Value.type "enumerate") <;> (wp_walk using go; exact ⟨_, rfl, hR⟩)
  · wp_walk using go; exact ⟨_, rfl, hR⟩
/-- enumerate called with one source: two cells -/
theorem enum_call {pr : Program} {ww : World} {aa : Around} {E Q : Value → Shared → Prop} {s : Shared} {src : Value} {io : Obj} {FF : Heap → Prop} (B : Begins src io FF) (hF : FF s.heap)
    (k : ∀ g : Heap, IsEnum g (s.heap.objs.size + 1) s.heap.objs.size 0 .none → g.get? s.heap.objs.size = some io → (∀ c u, s.heap.get? c = some u → g.get? c = some u) → Q (.ref (s.heap.objs.size + 1)) { s with heap := g }) :
    wpAny (model pr ww) aa (call (.type "enumerate") [src]) Q E s := by
  have size1 : (s.heap.push io).objs.size = s.heap.objs.size + 1 := by exact Heap.size_push ..
  have top : IsEnum ((s.heap.push io).push (enumObj s.heap.objs.size)) (s.heap.objs.size + 1) s.heap.objs.size 0 .none := size1 ▸ Heap.get?_push_size (s.heap.push io) (o := enumObj s.heap.objs.size) rfl
  have low : ((s.heap.push io).push (enumObj s.heap.objs.size)).get? s.heap.objs.size = some io := Heap.get?_push_of_some _ (Heap.get?_push_size _ B.free)
  have old (c : Addr) (u : Obj) (e : s.heap.get? c = some u) : ((s.heap.push io).push (enumObj s.heap.objs.size)).get? c = some u := Heap.get?_push_of_some _ (Heap.get?_push_of_some _ e)
  refine callType_new F.called_enumerate (by decide) (F.typeCall_enumerate_1 src) (F.newCall_enumerate_1 src) (fun ob => F.args_object_init_2 ob src) F.entry_enumerate_new (enum_new B) ⟨hF, ?_⟩
  show (∃ u, _) ∧ _
  rw [size1]
  exact ⟨⟨_, top, rfl⟩, k _ top low old⟩
/-- the places of a tuple, each in a pair with its number -/
def IteT (K : PySem.W.Frag) (t : Addr) : It where
  go j H := ∃ (us : List V) (u : V), SqT K H t us ∧ us[j]? = some u
  yld j H v H' := ∃ T u, v = .ref T ∧ H T = none ∧ H' = upd H T (.tup [.int (j : Nat), u]) ∧ ∀ us, SqT K H t us → us[j]? = some u
  stop j H := ∃ us : List V, SqT K H t us ∧ us.length ≤ j
theorem draws_out {pr : Program} {ww : World} {aa : Around} (na : aa.handled = none) (it t : Addr) (vs : Array Value) {j : Nat} (hj : vs[j]? = none) :
    Draws pr ww aa it [it, t] j (fun _ _ => False) (fun m g => m = j ∧ g.IsTupleIter it t j ∧ g.IsTuple t vs) := by
  refine ⟨fun m g ⟨_, ⟨u, hu, _⟩, _⟩ => ⟨u, hu⟩, fun m g g' ⟨e, h1, h2⟩ kp => ⟨e, h1.at fun u eu => kp it (by simp) u eu, h2.at fun u eu => kp t (by simp) u eu⟩, fun m s Q E lt ⟨e, _⟩ _ => absurd lt (by omega), fun s Q E ⟨_, h1, h2⟩ kE => ?_⟩
  exact wpAny_nextOf_tuple_end na h1 h2 hj kE
/-- where the walk of a tuple stands -/
structure EnT (en it t : Addr) (j : Nat) (g : Heap) : Prop where
  top : ∃ last, IsEnum g en it ((j : Nat) : Int) last
  low : g.IsTupleIter it t j
  ne : en ≠ it
theorem EnT.far {en it t : Addr} {j : Nat} {g : Heap} (S : EnT en it t j g) {vs : Array Value} (hv : g.IsTuple t vs) : t ≠ it ∧ en ≠ t := by
  obtain ⟨u, hu, cu, _⟩ := hv
  constructor
  · rintro rfl
    obtain ⟨u', hu', cu', _⟩ := S.low
    rw [hu] at hu'
    cases hu'
    rw [cu] at cu'
    simp at cu'
  · rintro rfl
    obtain ⟨last, hl⟩ := S.top
    unfold IsEnum at hl
    rw [hu] at hl
    cases hl
    simp at cu
theorem EnT.lt {en it t : Addr} {j : Nat} {g : Heap} (S : EnT en it t j g) {c : Addr} (hc : c ∈ [en, it]) : c < g.objs.size := by
  obtain ⟨last, hl⟩ := S.top
  obtain ⟨u, hu, _⟩ := S.low
  simp at hc
  rcases hc with rfl | rfl
  · exact Heap.lt_size hl
  · exact Heap.lt_size hu
theorem walk_enumT {P : Program} {w : World} {K : PySem.W.Frag} {ts : List Expr} {n : Nat} {q : Pos} (t en it : Addr) : Turn P w K (.Tuple ts n q) (IteT K t) [en, it] en (EnT en it t) := by
  refine ⟨by simp, ?obj, ?keep, ?item, ?done, ?self⟩
  case obj =>
    intro j g S c hc
    obtain ⟨last, hl⟩ := S.top
    obtain ⟨u, hu, cu, du⟩ := S.low
    simp at hc
    rcases hc with rfl | rfl
    · exact ⟨_, hl, by rintro _ ⟨⟩⟩
    · refine ⟨u, hu, fun _ z => ?_⟩
      rw [du] at z
      cases z
  case keep =>
    intro j g g' S kp
    obtain ⟨last, hl⟩ := S.top
    exact ⟨⟨last, kp en (by simp) _ hl⟩, S.low.at fun u eu => kp it (by simp) u eu, S.ne⟩
  case item =>
    rintro X rfl rfl rfl calm j pins s σ H E I own S ⟨us, u, sq, hu⟩
    obtain ⟨ls, rl, tup, _⟩ := I.tuple sq
    obtain ⟨val, hval, rval⟩ := rl.get hu
    obtain ⟨ti, et⟩ := S.far tup
    obtain ⟨last, hl⟩ := S.top
    have inside : j < ls.toArray.size := by simpa using (List.getElem?_eq_some_iff.mp hval).1
    have fresh : H s.heap.objs.size = none := I.hok.fresh (Nat.le_refl _)
    refine wpAny_pyNext_enum_itemD (Draws.tuple (A := X.A.in1) (show X.A.in1.handled = none from I.ok.hd calm) it t ti ls.toArray) hl ⟨S.low, tup⟩ inside S.ne (by simp [S.ne, et]) ?_
    intro got g tk isGot out ⟨low', _⟩ newT _ kp
    obtain rfl : got = val := Option.some.inj (isGot.symm.trans (by simpa using hval))
    refine ⟨_, rfl, wpAny_letOwnedTupleGo_enum (s := { s with heap := g, toks := tk + 1 }) out fun g2 top2 same => ?_⟩
    have at2 : g2.get? s.heap.objs.size = some { cls := .type "tuple", data := .seq #[.int j tk, got] } := by rw [← newT]; exact same.2 _ (Nat.ne_of_gt (S.lt (by simp)))
    have pairOk : ObjOk X.prog X.w (upd H s.heap.objs.size (.tup [.int (j : Nat), u])) g2 s.heap.objs.size (.tup [.int (j : Nat), u]) := by
      refine ⟨?_, [.int j tk, got], .cons ⟨_, rfl⟩ (.cons rval .nil), ⟨_, at2, rfl, _, rfl⟩⟩
      show 2 ≤ sizeLine
      decide
    have away {c : Addr} (hc : c ∉ [en, it]) : c ≠ en ∧ c ≠ it := by simpa using hc
    have J : Inv X pins σ (upd H s.heap.objs.size (.tup [.int (j : Nat), u])) { s with heap := g2, toks := tk + 1 } :=
      I.turnedNew (ch := [en, it]) (fun c uc hc e => by rw [same.2 c (away hc).1]; exact kp c uc (away hc).1 (away hc).2 e) own (Nat.le_refl _) pairOk
    have S2 : EnT en it t (j + 1) g2 := ⟨⟨got, by simpa using top2⟩, low'.at fun uc e => (same.2 it (Ne.symm S.ne)).trans e, S.ne⟩
    refine ⟨.ref s.heap.objs.size, _, J, rfl, ⟨_, u, rfl, fresh, rfl, fun us' h' => I.tuple_inj h' sq ▸ hu⟩, S2, fun c hc => ?_⟩
    rw [upd_ne (Nat.ne_of_lt (S.lt hc))]
    exact (own c hc).1
  case done =>
    rintro X rfl rfl rfl calm j pins s σ H E I own S ⟨us, sq, hlen⟩
    obtain ⟨ls, rl, tup, _⟩ := I.tuple sq
    obtain ⟨last, hl⟩ := S.top
    have over : ls.toArray[j]? = none := by have := rl.length; simp; omega
    obtain ⟨o1, o2, _, o3, o4, o5⟩ := own it (by simp)
    exact wpAny_pyNext_enum_endD (draws_out (show X.A.in1.handled = none from I.ok.hd calm) it t ls.toArray over) hl ⟨rfl, S.low, tup⟩ fun g kp => ⟨rfl, I.turned (t' := s.toks) (fun c uc hc e => kp c uc hc e) o1 o2 o3 o4 o5⟩
  case self =>
    intro A j s Q E S hq
    obtain ⟨last, hl⟩ := S.top
    exact wpAny_pyIter_enum hl hq
def iEnumA (K : PySem.W.Frag) (ta : TA) : TI := fun σ H R => ta σ H fun vs H1 => ∃ t us, vs = [.ref t] ∧ ((SqL K H1 t us ∧ R (Ite K t) H1) ∨ (SqT K H1 t us ∧ R (IteT K t) H1))
/-- enumerate of a list or of a tuple, by what stands at its place when it is called -/
theorem pi_enumA {X : Cx} {x : Expr} {ta : TA} {p pos q : Pos} {ts : List Expr} {n : Nat} (gl : Gl X "enumerate") (free : X.mg "enumerate" = none) (pa : PA X [x] ta) (star : starEach [x] X.env = [(false, eval x X.env)]) :
    PI X (.Tuple ts n q) (.Call (.Name "enumerate" p) [x] [] pos) (iEnumA X.K ta) := by
  constructor
  intro pins s σ H R I want
  refine Call_ (ld_blt I gl free boot_enumerate (PyProof.Rows.callWith_type1 (thn (pa.run pos pins s σ H _ I want) ?_) star rfl))
  rintro us s1 ⟨vs, H1, I1, rel, t, vals, rfl, next⟩
  cases rel with
  | cons r rest =>
    cases rest
    cases r
    have own (c : Addr) (hc : c ∈ [s1.heap.objs.size + 1, s1.heap.objs.size]) : FpOk X pins H1 c := by
      have : s1.heap.objs.size ≤ c := by
        rcases List.mem_cons.mp hc with rfl | h
        · exact Nat.le_succ _
        · exact Nat.le_of_eq (List.mem_singleton.mp h).symm
      exact I1.fpOk this (I1.hok.fresh this)
    rcases next with ⟨sq, next⟩ | ⟨sq, next⟩
    · obtain ⟨ls, _, lst, _⟩ := I1.list sq
      refine call_enumerate_list lst.isList fun g top low _ old => wpAny_pyIter_enum top ?_
      exact ⟨_, [s1.heap.objs.size + 1, s1.heap.objs.size], _, _, H1, rfl, I1.kept (t' := s1.toks) old, turn_enum t (s1.heap.objs.size + 1) s1.heap.objs.size, ⟨⟨.none, top⟩, low, Nat.succ_ne_self _⟩, own, next⟩
    · obtain ⟨ls, _, tup, _⟩ := I1.tuple sq
      refine enum_call (begins_tuple t ls.toArray) tup fun g top low old => wpAny_pyIter_enum top ?_
      exact ⟨_, [s1.heap.objs.size + 1, s1.heap.objs.size], _, _, H1, rfl, I1.kept (t' := s1.toks) old, walk_enumT t (s1.heap.objs.size + 1) s1.heap.objs.size, ⟨⟨.none, top⟩, ⟨_, low, rfl, rfl⟩, Nat.succ_ne_self _⟩, own, next⟩
end L2

set_option Elab.async false
set_option linter.all false
set_option maxRecDepth 100000
set_option maxHeartbeats 4000000
namespace DL
open PySem L2

/-! data: what a value is without addresses; lists by their number in a memory -/
inductive D where
  | non | bl (b : Bool) | int (i : Int) | str (s : Str) | tup (xs : List D) | lst (n : Nat) | scr (xs : List Int)
  | exc (c : String) (fs : List D) | exn (c : String) (fs : List D) | dct (n : Nat)

abbrev Mem := List (List D)

def SqF (K : Frg) (H : Hp) (a : Addr) (xs : List V) : Prop := (∃ o, H a = some (.frz o (.lst xs))) ∨ SqL K (fun _ => none) a xs

/-- a dict with tuple keys, locked or not -/
def DctO (o : HO) : Prop := (∃ kvs, o = .dT kvs) ∨ ∃ u kvs, o = .frz u (.dT kvs)
/-- a tuple's address: tracked, or one of texts -/
def TkA (K : Frg) (H : Hp) (a : Addr) (vs : List V) : Prop := H a = some (.tup vs) ∨ (SqT K H a vs ∧ ∃ zs : List Str, vs = zs.map V.str)
theorem TkA.sq {K : Frg} {H : Hp} {a : Addr} {vs : List V} (h : TkA K H a vs) : SqT K H a vs := by
  rcases h with h | h
  · exact .inl (.inl h)
  · exact h.1
/-- at a: an exception of the class at C, its dict at dx -/
abbrev hx (a C dx : Addr) : HO := .ext fun h => ∃ oe, h.get? a = some oe ∧ Zc (.ref C) (some dx) oe ∧ ∃ vs, oe.data = .fields vs
mutual
inductive Rp (K : Frg) (H : Hp) (A : List Addr) : V → D → Prop
  | non : Rp K H A .non .non
  | bl (b : Bool) : Rp K H A (.bl b) (.bl b)
  | int (i : Int) : Rp K H A (.int i) (.int i)
  | str (s : Str) : Rp K H A (.str s) (.str s)
  | tup {a : Addr} {vs : List V} {ds : List D} : TkA K H a vs → RpL K H A vs ds → Rp K H A (.ref a) (.tup ds)
  | lst {a : Addr} {n : Nat} : A[n]? = some a → (∃ vs, H a = some (.lst vs)) → Rp K H A (.ref a) (.lst n)
  | dct {a : Addr} {n : Nat} : A[n]? = some a → (∃ o, H a = some o ∧ DctO o) → Rp K H A (.ref a) (.dct n)
  | scr {a : Addr} {ns : List Int} : SqF K H a (ns.map V.int) → Rp K H A (.ref a) (.scr ns)
  | exc {a dx : Addr} {c : String} {vs : List V} {ds : List D} : XcA K c → H a = some (hx a (clsA K c) dx) → H dx = some (.xd ((xFlds c).zip vs).reverse) → vs.length = (xFlds c).length → RpL K H A vs ds → Rp K H A (.ref a) (.exc c ds)
inductive RpL (K : Frg) (H : Hp) (A : List Addr) : List V → List D → Prop
  | nil : RpL K H A [] []
  | cons {v : V} {vs : List V} {d : D} {ds : List D} : Rp K H A v d → RpL K H A vs ds → RpL K H A (v :: vs) (d :: ds)
end

/-! dicts whose keys are points: a cell of its own make -/
abbrev Tab := List ((Int × Int) × D)
def enD2 (e : (Int × Int) × D) : D := .tup [.tup [.int e.1.1, .int e.1.2], e.2]
def dcD (ls : Tab) : List D := [.exn "{}" (ls.map enD2)]
/-- .. while it is walked -/
def dcF (ls : Tab) : List D := [.exn "{|}" (ls.map enD2)]
def keyP (p : Int × Int) : List L2.Key := [.inl p.1, .inl p.2]
theorem enD2_inj : ∀ {ls ls' : Tab}, ls.map enD2 = ls'.map enD2 → ls = ls'
  | [], [], _ => rfl
  | [], _ :: _, h => by simp at h
  | _ :: _, [], h => by simp at h
  | (p, d) :: ls, (p', d') :: ls', h => by
    simp only [List.map_cons, List.cons.injEq, enD2, D.tup.injEq, D.int.injEq, and_true] at h
    obtain ⟨⟨⟨a, b⟩, c⟩, e⟩ := h
    rw [enD2_inj e, Prod.ext (show p.1 = p'.1 from a) b, c]
inductive KvR (K : Frg) (H : Hp) (A : List Addr) : List (List L2.Key × V) → Tab → Prop
  | nil : KvR K H A [] []
  | cons {p : Int × Int} {v : V} {d : D} {kvs : List (List L2.Key × V)} {ls : Tab} : Rp K H A v d → KvR K H A kvs ls → KvR K H A ((keyP p, v) :: kvs) ((p, d) :: ls)
/-- what stands at a cell: a list or a dict -/
inductive Cel (K : Frg) (H : Hp) (A : List Addr) (a : Addr) : List D → Prop
  | lst {vs : List V} {ds : List D} : H a = some (.lst vs) → RpL K H A vs ds → Cel K H A a ds
  | dct {kvs : List (List L2.Key × V)} {ls : Tab} : H a = some (.dT kvs) → KvR K H A kvs ls → Cel K H A a (dcD ls)
  | frz {o : Obj} {kvs : List (List L2.Key × V)} {ls : Tab} : H a = some (.frz o (.dT kvs)) → KvR K H A kvs ls → Cel K H A a (dcF ls)
def IsCell : HO → Prop
  | .lst _ => True
  | .dT _ => True
  | .frz _ u => (match u with | .dT _ => True | _ => False)
  | _ => False
/-- the same make -/
def SameK (H H' : Hp) (a : Addr) : Prop := (∀ vs, H a = some (.lst vs) → ∃ ws, H' a = some (.lst ws)) ∧ (∀ o, H a = some o → DctO o → ∃ o', H' a = some o' ∧ DctO o') ∧ ∀ u x, H a = some (.frz u x) → H' a = some (.frz u x)
theorem SameK.refl (H : Hp) (a : Addr) : SameK H H a := ⟨fun vs h => ⟨vs, h⟩, fun o h d => ⟨o, h, d⟩, fun _ _ h => h⟩

structure Rm (K : Frg) (H : Hp) (A : List Addr) (M : Mem) : Prop where
  len : A.length = M.length
  nd : A.Nodup
  at_ : ∀ (n : Nat) (ds : List D), M[n]? = some ds → ∃ a, A[n]? = some a ∧ Cel K H A a ds

structure Stp (H : Hp) (A : List Addr) (H' : Hp) (A' : List Addr) : Prop where
  more : ∃ B, A' = A ++ B
  keep : ∀ b o, H b = some o → b ∉ A → H' b = some o ∧ b ∉ A'
  kind : ∀ a ∈ A, SameK H H' a

theorem Stp.refl (H : Hp) (A : List Addr) : Stp H A H A := ⟨⟨[], by simp⟩, fun b o e n => ⟨e, n⟩, fun _ _ => SameK.refl _ _⟩
theorem Stp.trans {H H1 H2 : Hp} {A A1 A2 : List Addr} (s : Stp H A H1 A1) (t : Stp H1 A1 H2 A2) : Stp H A H2 A2 := by
  obtain ⟨B, rfl⟩ := s.more
  obtain ⟨C, rfl⟩ := t.more
  exact ⟨⟨B ++ C, by simp⟩, fun b o e n => let ⟨e1, n1⟩ := s.keep b o e n; t.keep b o e1 n1, fun a ha => ⟨fun vs h => by
    obtain ⟨ws, h⟩ := (s.kind a ha).1 vs h
    exact (t.kind a (List.mem_append_left _ ha)).1 ws h, fun o h d => by
    obtain ⟨o', h, d⟩ := (s.kind a ha).2.1 o h d
    exact (t.kind a (List.mem_append_left _ ha)).2.1 o' h d, fun u x h => (t.kind a (List.mem_append_left _ ha)).2.2 u x ((s.kind a ha).2.2 u x h)⟩⟩
theorem Stp.get {H H1 : Hp} {A A1 : List Addr} (s : Stp H A H1 A1) {n : Nat} {a : Addr} (h : A[n]? = some a) : A1[n]? = some a := by
  obtain ⟨B, rfl⟩ := s.more
  have hn : n < A.length := (List.getElem?_eq_some_iff.mp h).1
  rw [List.getElem?_append_left hn]; exact h
theorem Rm.mem {K : Frg} {H : Hp} {A : List Addr} {M : Mem} (r : Rm K H A M) {a : Addr} (h : a ∈ A) : ∃ o, H a = some o ∧ IsCell o := by
  obtain ⟨n, hn⟩ := List.mem_iff_getElem?.mp h
  have hl : n < M.length := by rw [← r.len]; exact (List.getElem?_eq_some_iff.mp hn).1
  obtain ⟨b, e1, e2⟩ := r.at_ n M[n] (List.getElem?_eq_getElem hl)
  rw [hn] at e1; cases e1
  generalize M[n] = ds at e2
  cases e2 with
  | lst e _ => exact ⟨_, e, trivial⟩
  | dct e _ => exact ⟨_, e, trivial⟩
  | frz e _ => exact ⟨_, e, trivial⟩
theorem Rm.notin {K : Frg} {H : Hp} {A : List Addr} {M : Mem} (r : Rm K H A M) {a : Addr} {o : HO} (h : H a = some o) (ho : ¬ IsCell o) : a ∉ A := fun z => by
  obtain ⟨u, e, c⟩ := r.mem z
  rw [h] at e; cases e
  exact ho c
theorem Rm.fresh {K : Frg} {H : Hp} {A : List Addr} {M : Mem} (r : Rm K H A M) {a : Addr} (h : H a = none) : a ∉ A := fun z => by
  obtain ⟨vs, e, _⟩ := r.mem z
  rw [h] at e; cases e

section
variable {K : Frg} {H H' : Hp} {A A' : List Addr} {M : Mem}
theorem sqT_stp (r : Rm K H A M) (s : Stp H A H' A') {a : Addr} {vs : List V} (h : SqT K H a vs) : SqT K H' a vs := by
  rcases h with (h | ⟨o, h⟩) | h
  · exact .inl (.inl (s.keep a _ h (r.notin h fun z => z)).1)
  · exact .inl (.inr ⟨o, (s.keep a _ h (r.notin h fun z => z)).1⟩)
  · exact .inr h
theorem tA_stp (r : Rm K H A M) (s : Stp H A H' A') {a : Addr} {vs : List V} (h : TkA K H a vs) : TkA K H' a vs := by
  rcases h with h | ⟨h, z⟩
  · exact .inl (s.keep _ _ h (r.notin h fun z => z)).1
  · exact .inr ⟨sqT_stp r s h, z⟩
theorem sqF_stp (r : Rm K H A M) (s : Stp H A H' A') {a : Addr} {vs : List V} (h : SqF K H a vs) : SqF K H' a vs := by
  rcases h with ⟨o, h⟩ | h
  · exact .inl ⟨o, (s.keep a _ h (r.notin h fun z => z)).1⟩
  · exact .inr h
theorem SqF.seq {a : Addr} {vs : List V} (h : SqF K H a vs) : SqL K H a vs := by
  rcases h with ⟨o, h⟩ | (h | h)
  · exact .inl (.inr ⟨o, h⟩)
  · rcases h with h | ⟨o, h⟩ <;> cases h
  · exact .inr h
mutual
theorem Rp.stp (r : Rm K H A M) (s : Stp H A H' A') : ∀ {v : V} {d : D}, Rp K H A v d → Rp K H' A' v d
  | _, _, .non => .non
  | _, _, .bl b => .bl b
  | _, _, .int b => .int b
  | _, _, .str b => .str b
  | _, _, .tup h l => .tup (tA_stp r s h) (RpL.stp r s l)
  | _, _, .lst h ⟨_, k⟩ => .lst (s.get h) ((s.kind _ (List.mem_of_getElem? h)).1 _ k)
  | _, _, .dct h ⟨o, k, d⟩ => .dct (s.get h) ((s.kind _ (List.mem_of_getElem? h)).2.1 o k d)
  | _, _, .scr h => .scr (sqF_stp r s h)
  | _, _, .exc h0 h1 h2 h3 l => .exc h0 (s.keep _ _ h1 (r.notin h1 fun z => z)).1 (s.keep _ _ h2 (r.notin h2 fun z => z)).1 h3 (RpL.stp r s l)
theorem RpL.stp (r : Rm K H A M) (s : Stp H A H' A') : ∀ {v : List V} {d : List D}, RpL K H A v d → RpL K H' A' v d
  | _, _, .nil => .nil
  | _, _, .cons h l => .cons (Rp.stp r s h) (RpL.stp r s l)
end
theorem KvR.stp (r : Rm K H A M) (s : Stp H A H' A') : ∀ {kvs : List (List L2.Key × V)} {ls : Tab}, KvR K H A kvs ls → KvR K H' A' kvs ls
  | _, _, .nil => .nil
  | _, _, .cons h l => .cons (h.stp r s) (KvR.stp r s l)
theorem Cel.stp' (r : Rm K H A M) (s : Stp H A H' A') {a : Addr} {ds : List D} (hk : H' a = H a) : Cel K H A a ds → Cel K H' A' a ds
  | .lst h l => .lst (hk.trans h) (l.stp r s)
  | .dct h l => .dct (hk.trans h) (l.stp r s)
  | .frz h l => .frz (hk.trans h) (l.stp r s)
theorem Cel.some {a : Addr} {ds : List D} : Cel K H A a ds → ∃ o, H a = some o
  | .lst h _ => ⟨_, h⟩
  | .dct h _ => ⟨_, h⟩
  | .frz h _ => ⟨_, h⟩
theorem sq_tup {a : Addr} {vs : List V} (h : H a = some (.tup vs)) : SqT K H a vs := .inl (.inl h)
theorem RpL.length : ∀ {vs : List V} {ds : List D}, RpL K H A vs ds → vs.length = ds.length
  | _, _, .nil => rfl
  | _, _, .cons _ l => congrArg (· + 1) (RpL.length l)
theorem RpL.get : ∀ {vs : List V} {ds : List D} {i : Nat} {d : D}, RpL K H A vs ds → ds[i]? = some d → ∃ v, vs[i]? = some v ∧ Rp K H A v d
  | _, _, i, _, .nil, e => by simp at e
  | _, _, 0, _, .cons h _, e => by simp at e; subst e; exact ⟨_, rfl, h⟩
  | _, _, i + 1, d, .cons _ l, e => by
    obtain ⟨v, h1, h2⟩ := RpL.get (i := i) (d := d) l (by simpa using e)
    exact ⟨v, by simpa using h1, h2⟩
theorem RpL.get' : ∀ {vs : List V} {ds : List D} {i : Nat} {v : V}, RpL K H A vs ds → vs[i]? = some v → ∃ d, ds[i]? = some d ∧ Rp K H A v d
  | _, _, i, _, .nil, e => by simp at e
  | _, _, 0, _, .cons h _, e => by simp at e; subst e; exact ⟨_, rfl, h⟩
  | _, _, i + 1, d, .cons _ l, e => by
    obtain ⟨v, h1, h2⟩ := RpL.get' (i := i) (v := d) l (by simpa using e)
    exact ⟨v, by simpa using h1, h2⟩
theorem RpL.append : ∀ {vs ws : List V} {ds es : List D}, RpL K H A vs ds → RpL K H A ws es → RpL K H A (vs ++ ws) (ds ++ es)
  | _, _, _, _, .nil, l => l
  | _, _, _, _, .cons h l, m => .cons h (RpL.append l m)
theorem RpL.drop : ∀ {vs : List V} {ds : List D} (n : Nat), RpL K H A vs ds → RpL K H A (vs.drop n) (ds.drop n)
  | _, _, 0, l => l
  | _, _, _ + 1, .nil => .nil
  | _, _, n + 1, .cons _ l => RpL.drop n l
theorem RpL.take : ∀ {vs : List V} {ds : List D} (n : Nat), RpL K H A vs ds → RpL K H A (vs.take n) (ds.take n)
  | _, _, 0, l => .nil
  | _, _, _ + 1, .nil => .nil
  | _, _, n + 1, .cons h l => .cons h (RpL.take n l)
theorem RpL.set {v : V} {d : D} (h : Rp K H A v d) : ∀ {vs : List V} {ds : List D} (n : Nat), RpL K H A vs ds → RpL K H A (vs.set n v) (ds.set n d)
  | _, _, _, .nil => .nil
  | _, _, 0, .cons _ l => .cons h l
  | _, _, n + 1, .cons q l => .cons q (RpL.set h n l)
theorem RpL.eraseIdx : ∀ {vs : List V} {ds : List D} (n : Nat), RpL K H A vs ds → RpL K H A (vs.eraseIdx n) (ds.eraseIdx n)
  | _, _, _, .nil => .nil
  | _, _, 0, .cons _ l => l
  | _, _, n + 1, .cons q l => .cons q (RpL.eraseIdx n l)
theorem RpL.dropLast : ∀ {vs : List V} {ds : List D}, RpL K H A vs ds → RpL K H A vs.dropLast ds.dropLast
  | _, _, .nil => .nil
  | _, _, .cons _ .nil => .nil
  | _, _, .cons q (.cons q' l) => .cons q (RpL.dropLast (.cons q' l))
theorem RpL.reverse : ∀ {vs : List V} {ds : List D}, RpL K H A vs ds → RpL K H A vs.reverse ds.reverse
  | _, _, .nil => .nil
  | _, _, .cons q l => by
    rw [List.reverse_cons, List.reverse_cons]
    exact RpL.append (RpL.reverse l) (.cons q .nil)
theorem RpL.ints : ∀ (ns : List Int), RpL K H A (ns.map V.int) (ns.map D.int)
  | [] => .nil
  | _ :: r => .cons (.int _) (RpL.ints r)
theorem RpL.strs : ∀ (zs : List Str), RpL K H A (zs.map V.str) (zs.map D.str)
  | [] => .nil
  | _ :: r => .cons (.str _) (RpL.strs r)
theorem RpL.of_ints : ∀ {ns : List Int} {vs : List V}, RpL K H A vs (ns.map D.int) → vs = ns.map V.int
  | [], _, .nil => rfl
  | _ :: r, _, .cons (.int _) l => by rw [RpL.of_ints l]; rfl
/-- a point's tuple is tracked -/
theorem Rp.key {v : V} {p q : Int} (h : Rp K H A v (.tup [.int p, .int q])) : ∃ a, v = .ref a ∧ H a = some (.tup [.int p, .int q]) := by
  generalize hd : D.tup [.int p, .int q] = d at h
  cases h with
  | tup h l =>
    cases hd
    have e := RpL.of_ints (ns := [p, q]) l
    subst e
    rcases h with h | ⟨_, zs, h⟩
    · exact ⟨_, rfl, h⟩
    · match zs, h with
      | [], h => simp at h
      | z :: zs, h => simp at h
  | _ => cases hd
theorem RpL.of_bls : ∀ {ns : List Bool} {vs : List V}, RpL K H A vs (ns.map D.bl) → vs = ns.map V.bl
  | [], _, .nil => rfl
  | _ :: r, _, .cons (.bl _) l => by rw [RpL.of_bls l]; rfl

/-! a new tuple, a new list, a list changed -/
theorem same_ne {p a : Addr} {o : HO} (h : H a ≠ none → a ≠ p) : SameK H (upd H p o) a :=
  ⟨fun vs e => ⟨vs, by rw [upd_ne (h (by rw [e]; simp))]; exact e⟩, fun o' e d => ⟨o', by rw [upd_ne (h (by rw [e]; simp))]; exact e, d⟩, fun u x e => by rw [upd_ne (h (by rw [e]; simp))]; exact e⟩
theorem stp_upd (r : Rm K H A M) {p : Addr} {o : HO} (hp : H p = none) : Stp H A (upd H p o) A :=
  ⟨⟨[], by simp⟩, fun b u e n => ⟨by rw [upd_ne (ne_of_none e hp)]; exact e, n⟩, fun a _ => same_ne fun h e => h (e ▸ hp)⟩
theorem stp_newO (r : Rm K H A M) {p : Addr} {o : HO} (hp : H p = none) : Stp H A (upd H p o) (A ++ [p]) :=
  ⟨⟨[p], rfl⟩, fun b u e n => ⟨by rw [upd_ne (ne_of_none e hp)]; exact e, fun z => by
    rcases List.mem_append.mp z with z | z
    · exact n z
    · exact ne_of_none e hp (by simpa using z)⟩, fun a _ => same_ne fun h e => h (e ▸ hp)⟩
theorem stp_new (r : Rm K H A M) {p : Addr} {vs : List V} (hp : H p = none) : Stp H A (upd H p (.lst vs)) (A ++ [p]) := stp_newO r hp
theorem rm_upd (r : Rm K H A M) {p : Addr} {o : HO} (hp : H p = none) : Rm K (upd H p o) A M :=
  ⟨r.len, r.nd, fun n ds e => by
    obtain ⟨a, h1, h2⟩ := r.at_ n ds e
    obtain ⟨u, hu⟩ := h2.some
    exact ⟨a, h1, h2.stp' r (stp_upd r hp) (upd_ne (ne_of_none hu hp))⟩⟩
theorem rm_newC (r : Rm K H A M) {p : Addr} {o : HO} {ds : List D} (hp : H p = none) (h : Cel K (upd H p o) (A ++ [p]) p ds) : Rm K (upd H p o) (A ++ [p]) (M ++ [ds]) := by
  have s := stp_newO r (o := o) hp
  refine ⟨by simp [r.len], ?_, fun n es e => ?_⟩
  · rw [List.nodup_append]
    refine ⟨r.nd, by simp, fun a ha b hb => ?_⟩
    have hb' : b = p := by simpa using hb
    subst hb'
    exact fun z => r.fresh hp (z ▸ ha)
  · by_cases hn : n < M.length
    · rw [List.getElem?_append_left hn] at e
      obtain ⟨a, h1, h2⟩ := r.at_ n es e
      obtain ⟨u, hu⟩ := h2.some
      exact ⟨a, s.get h1, h2.stp' r s (upd_ne (ne_of_none hu hp))⟩
    · have e' := e
      rw [List.getElem?_append_right (Nat.le_of_not_lt hn)] at e'
      have hn' : n - M.length = 0 := by
        have := (List.getElem?_eq_some_iff.mp e').1
        simpa using this
      rw [hn'] at e'
      simp only [List.getElem?_cons_zero, Option.some.injEq] at e'
      subst e'
      refine ⟨p, ?_, h⟩
      rw [List.getElem?_append_right (by rw [r.len]; omega), r.len, hn']
      rfl
theorem rm_new (r : Rm K H A M) {p : Addr} {vs : List V} {ds : List D} (hp : H p = none) (h : RpL K H A vs ds) : Rm K (upd H p (.lst vs)) (A ++ [p]) (M ++ [ds]) :=
  rm_newC r hp (.lst upd_same (h.stp r (stp_new r hp)))
theorem rp_new (r : Rm K H A M) {p : Addr} {vs : List V} (hp : H p = none) : Rp K (upd H p (.lst vs)) (A ++ [p]) (.ref p) (.lst M.length) :=
  .lst (by rw [← r.len, List.getElem?_append_right (Nat.le_refl _)]; simp) ⟨vs, upd_same⟩
theorem stp_writeO (r : Rm K H A M) {n : Nat} {a : Addr} {o : HO} (ha : A[n]? = some a) (hk : SameK H (upd H a o) a) : Stp H A (upd H a o) A :=
  ⟨⟨[], by simp⟩, fun b u e nb => ⟨by rw [upd_ne (show b ≠ a from fun z => nb (by rw [z]; exact List.mem_of_getElem? ha))]; exact e, nb⟩, fun b _ => by
    by_cases e : b = a
    · rw [e]; exact hk
    · exact same_ne fun _ => e⟩
theorem same_lst {a : Addr} {vs ws : List V} (h : H a = some (.lst vs)) : SameK H (upd H a (.lst ws)) a := ⟨fun _ _ => ⟨ws, upd_same⟩, fun o e d => (by rw [h] at e; cases e; rcases d with ⟨_, d⟩ | ⟨_, _, d⟩ <;> cases d), fun u x e => by rw [h] at e; cases e⟩
theorem same_dct {a : Addr} {vs ws : List (List L2.Key × V)} (h : H a = some (.dT vs)) : SameK H (upd H a (.dT ws)) a := ⟨fun k e => (by rw [h] at e; cases e), fun _ _ _ => ⟨_, upd_same, .inl ⟨ws, rfl⟩⟩, fun u x e => by rw [h] at e; cases e⟩
theorem stp_write (r : Rm K H A M) {n : Nat} {a : Addr} {us vs : List V} (ha : A[n]? = some a) (hk : H a = some (.lst us)) : Stp H A (upd H a (.lst vs)) A := stp_writeO r ha (same_lst hk)
theorem rm_writeC (r : Rm K H A M) {n : Nat} {a : Addr} {o : HO} {ds : List D} (ha : A[n]? = some a) (hk : SameK H (upd H a o) a) (h : Cel K (upd H a o) A a ds) : Rm K (upd H a o) A (M.set n ds) := by
  have s := stp_writeO r ha hk
  have hn : n < M.length := by rw [← r.len]; exact (List.getElem?_eq_some_iff.mp ha).1
  refine ⟨by simp [r.len], r.nd, fun m es e => ?_⟩
  by_cases hm : m = n
  · subst hm
    rw [List.getElem?_set_self hn] at e
    cases e
    exact ⟨a, ha, h⟩
  · rw [List.getElem?_set_ne (Ne.symm hm)] at e
    obtain ⟨b, h1, h2⟩ := r.at_ m es e
    refine ⟨b, h1, h2.stp' r s ?_⟩
    rw [upd_ne (show b ≠ a from fun z => hm (nd_ix r.nd h1 (by rw [z]; exact ha)))]
theorem rm_write (r : Rm K H A M) {n : Nat} {a : Addr} {us vs : List V} {ds : List D} (ha : A[n]? = some a) (hk : H a = some (.lst us)) (h : RpL K H A vs ds) : Rm K (upd H a (.lst vs)) A (M.set n ds) :=
  rm_writeC r ha (same_lst hk) (.lst upd_same (h.stp r (stp_write r ha hk)))
theorem Rm.list (r : Rm K H A M) {n : Nat} {a : Addr} {ds : List D} (ha : A[n]? = some a) (hk : ∃ us, H a = some (.lst us)) (e : M[n]? = some ds) : ∃ vs, H a = some (.lst vs) ∧ RpL K H A vs ds := by
  obtain ⟨b, h1, h2⟩ := r.at_ n ds e
  rw [ha] at h1; cases h1
  obtain ⟨us, hu⟩ := hk
  cases h2 with
  | lst h l => exact ⟨_, h, l⟩
  | dct h l => rw [h] at hu; cases hu
  | frz h l => rw [h] at hu; cases hu
theorem dcF_inj {ls ls' : Tab} (h : dcF ls = dcF ls') : ls = ls' := by
  unfold dcF at h
  simp only [List.cons.injEq, D.exn.injEq, true_and, and_true] at h
  exact enD2_inj h
theorem dcDF {ls ls' : Tab} (h : dcD ls = dcF ls') : False := by
  unfold dcD dcF at h
  simp at h
theorem rp_exn {vs : List V} {c : String} {fs : List D} (l : RpL K H A vs [.exn c fs]) : False := by
  cases l with
  | cons h _ => cases h
/-- a dict that is walked -/
theorem Rm.dictF (r : Rm K H A M) {n : Nat} {a : Addr} {ls : Tab} (ha : A[n]? = some a) (e : M[n]? = some (dcF ls)) : ∃ o kvs, H a = some (.frz o (.dT kvs)) ∧ KvR K H A kvs ls := by
  obtain ⟨b, h1, h2⟩ := r.at_ n _ e
  rw [ha] at h1; cases h1
  generalize hd : dcF ls = ds at h2
  cases h2 with
  | lst h l => unfold dcF at hd; rw [← hd] at l; exact (rp_exn l).elim
  | dct h l => exact (dcDF hd.symm).elim
  | frz h l => rw [dcF_inj hd]; exact ⟨_, _, h, l⟩
theorem Rm.dict (r : Rm K H A M) {n : Nat} {a : Addr} {ls : Tab} (ha : A[n]? = some a) (e : M[n]? = some (dcD ls)) : ∃ kvs, H a = some (.dT kvs) ∧ KvR K H A kvs ls := by
  obtain ⟨b, h1, h2⟩ := r.at_ n _ e
  rw [ha] at h1; cases h1
  generalize hd : dcD ls = ds at h2
  cases h2 with
  | lst h l => unfold dcD at hd; rw [← hd] at l; exact (rp_exn l).elim
  | frz h l => exact (dcDF hd).elim
  | @dct kvs ls' h l =>
    have : ls = ls' := by
      unfold dcD at hd
      simp only [List.cons.injEq, D.exn.injEq, true_and, and_true] at hd
      exact enD2_inj hd
    subst this
    exact ⟨_, h, l⟩
end

/-! data as a whole -/
mutual
inductive PD (M : Mem) : D → PyData → Prop
  | non : PD M .non .none
  | bl (b : Bool) : PD M (.bl b) (.bool b)
  | int (i : Int) : PD M (.int i) (.int i)
  | str (s : Str) : PD M (.str s) (.str s)
  | tup {ds : List D} {ps : List PyData} : PDL M ds ps → PD M (.tup ds) (.tuple ps)
  | lst {n : Nat} {ds : List D} {ps : List PyData} : M[n]? = some ds → PDL M ds ps → PD M (.lst n) (.list ps)
inductive PDL (M : Mem) : List D → List PyData → Prop
  | nil : PDL M [] []
  | cons {d : D} {ds : List D} {p : PyData} {ps : List PyData} : PD M d p → PDL M ds ps → PDL M (d :: ds) (p :: ps)
end
section
variable {K : Frg} {H : Hp} {A : List Addr} {M : Mem}
mutual
theorem PD.dp (r : Rm K H A M) : ∀ {d : D} {p : PyData} {v : V}, PD M d p → Rp K H A v d → Dp K H v p
  | _, _, _, .non, .non => .non
  | _, _, _, .bl b, .bl _ => .bl b
  | _, _, _, .int b, .int _ => .int b
  | _, _, _, .str b, .str _ => .str b
  | _, _, _, .tup l, .tup h q => .tup h.sq (PDL.dp r l q)
  | _, _, _, .lst e l, .lst h hk => by
    obtain ⟨vs, h2, h3⟩ := r.list h hk e
    exact .lst (SqL.of h2) (PDL.dp r l h3)
theorem PDL.dp (r : Rm K H A M) : ∀ {d : List D} {p : List PyData} {v : List V}, PDL M d p → RpL K H A v d → DpAll K H v p
  | _, _, _, .nil, .nil => .nil
  | _, _, _, .cons q l, .cons h m => .cons (PD.dp r q h) (PDL.dp r l m)
end
end
end DL

set_option Elab.async false
set_option linter.all false
set_option maxRecDepth 100000
set_option maxHeartbeats 4000000
namespace DL
open PySem L2 PySem.Spec PyProof.Rows
/-! RimError.__init__(self, ..) -/
section
variable {X : Cx} {e : Expr} {es : List Expr} {ta : TA} {p1 p2 pos : Pos} {R : Addr}
end
/-- what the refusal's own __init__ does: lays the fields -/
def spInit (K : Frg) (c : String) : Sp := fun vs H Q _ => ∃ a ws, vs = .ref a :: ws ∧ ws.length = (xFlds c).length ∧ H a = some (exo a (clsA K c) none) ∧
  ∀ dx H2, H dx = none → dx ≠ a → H2 a = some (exo a (clsA K c) (some dx)) → H2 dx = some (exd dx ((xFlds c).zip ws).reverse) → (∀ b, b ≠ a → b ≠ dx → H2 b = H b) → Q .non H2

/-! raise C(..) -/
theorem xFlds_few (c : String) : (xFlds c).length ≤ 2 := by
  unfold xFlds
  split <;> decide
theorem mk_wish {K : Frg} {c : String} {vs : List V} {H1 : Hp} {Q : XK} (hl : vs.length = (xFlds c).length) (q : ∀ d, H1 d = none → Q (.ref (clsA K c)) (some d) (upd H1 d (.xd ((xFlds c).zip vs).reverse))) :
    vs.length ≤ 1000 ∧ ∀ a, H1 a = none → spInit K c (.ref a :: (vs ++ [])) (upd H1 a (exo a (clsA K c) none))
      (fun v H2 => v = .non ∧ ∃ (d : Addr) (fs : List (Str × V)), H2 a = some (exo a (clsA K c) (some d)) ∧ H2 d = some (exd d fs) ∧ H1 d = none ∧ Q (.ref (clsA K c)) (some d) (upd (del H2 a) d (.xd fs))) (fun _ _ _ => False) := by
  refine ⟨by have := xFlds_few c; omega, fun a na => ⟨a, vs ++ [], rfl, by rw [List.append_nil]; exact hl, upd_same, fun dx H2 nd ne e1 e2 rest => ?_⟩⟩
  rw [upd_ne ne] at nd
  rw [List.append_nil] at e2
  refine ⟨rfl, dx, _, e1, e2, nd, ?_⟩
  have eq : upd (del H2 a) dx (.xd ((xFlds c).zip vs).reverse) = upd H1 dx (.xd ((xFlds c).zip vs).reverse) := by
    funext b
    by_cases hb : b = dx
    · rw [hb, upd_same, upd_same]
    · rw [upd_ne hb, upd_ne hb]
      by_cases hb2 : b = a
      · rw [hb2, del_same, na]
      · rw [del_ne hb2, rest b hb2 hb, upd_ne hb2]
  rw [eq]
  exact q dx nd

/-! isinstance of a held refusal; its fields -/
theorem xc_at {P : Program} {w : World} {H : Hp} {h : Heap} {a C dx : Addr} (ok : HOk P w H h) (e : H a = some (hx a C dx)) : ∃ oe, h.get? a = some oe ∧ Zc (.ref C) (some dx) oe ∧ ∃ vs, oe.data = .fields vs :=
  (show ObjOk P w H h a (hx a C dx) from ok a _ e).1
theorem xc_inst {P : Program} {w : World} {H : Hp} {h : Heap} {a C dx : Addr} {fs : List (Str × V)} (ok : HOk P w H h) (e : H a = some (hx a C dx)) (ed : H dx = some (.xd fs)) :
    ∃ (oe od : Obj) (mA : Str → Option Value), PySem.W.InstAt h a oe C (some od) ∧ (∀ name, PySem.W.lookIn name od = some (mA name)) ∧ ∀ f, RelO (fs.lookup f) (mA f) := by
  obtain ⟨oe, h1, ⟨z1, z2⟩, vs, hd⟩ := xc_at ok e
  obtain ⟨mA, hns, hr⟩ := (show ObjOk P w H h dx (.xd fs) from ok dx _ ed)
  obtain ⟨od, ho, hl⟩ := lookIn_ns hns
  exact ⟨oe, od, mA, ⟨h1, z1, by unfold PySem.W.notCls; rw [hd] <;> rfl, by rw [z2]; exact ho⟩, hl, hr⟩
/-- the class values of names -/
def clsV (K : Frg) (d : String) : V := if d = "ValueError" then .ty "ValueError" else .ref (clsA K d)
theorem clsV_ok {K : Frg} (d : String) : ClsV (clsV K d) (clsX K d) := by
  unfold clsV clsX
  split
  · exact .ty _
  · exact .own _
/-- what is asked of: a held refusal, or None -/
inductive IsQ (K : Frg) (H : Hp) : V → Value → Prop where
  | exc {a dx : Addr} {c : String} {fs : List (Str × V)} : XcC K c → H a = some (hx a (clsA K c) dx) → H dx = some (.xd fs) → IsQ K H (.ref a) (.ref (clsA K c))
  | non : IsQ K H .non (.type "NoneType")
section
variable {X : Cx} {pins : List (Addr × Obj)} {σ : L2.St} {H : Hp} {s : Shared}
theorem isq_kit {x : V} {u t : Value} (I : Inv X pins σ H s) (rx : RelV x u) (q : IsQ X.K H x t) : ∃ P : Heap → Prop, PySem.W.KitX X.K u t P ∧ P s.heap ∧ u ≠ .builtin "__main__.__loader__#opaque" := by
  cases q with
  | @exc a dx c fs T ea ed =>
    obtain rfl : u = Value.ref a := rx
    obtain ⟨oe, od, mA, J, _⟩ := xc_inst I.hok ea ed
    exact ⟨_, PySem.W.kitx_exc T.cl T.xf.ga T.xf.gg T.xf.exC T.ha T.hn T.ht T.hm, J, fun z => nomatch z⟩
  | non =>
    obtain rfl : u = Value.none := rx
    exact ⟨_, PySem.W.kitx_none, True.intro, fun z => nomatch z⟩
end
def rIsx (K : Frg) (d : String) (b : Bool) : List V → Hp → VK → Prop := fun xs H Q => ∃ x t, xs = [x, clsV K d] ∧ IsQ K H x t ∧ PySem.W.kitOne K t (clsX K d) = some b ∧ Q (.bl b) H
def rIsxT (K : Frg) (ds : List String) : List V → Hp → VK → Prop := fun xs H Q => ∃ x t tp b, xs = [x, .ref tp] ∧ H tp = some (.tup (ds.map (clsV K))) ∧ IsQ K H x t ∧ PySem.W.kitAny K t (ds.map (clsX K)) = some b ∧ Q (.bl b) H
theorem clsVs {K : Frg} : ∀ ds : List String, Paired ClsV (ds.map (clsV K)) (ds.map (clsX K))
  | [] => .nil
  | d :: ds => .cons (clsV_ok d) (clsVs ds)
section
variable {X : Cx}
def rIsx1 (K : Frg) (d : String) : List V → Hp → VK → Prop := fun xs H Q => ∃ b, rIsx K d b xs H Q
theorem call_isx (d : String) : CallR X (.builtin "isinstance") (rIsx1 X.K d) := by
  intro pins s σ H xs us Q I r h
  obtain ⟨b, x, t, rfl, q, e, w⟩ := h
  obtain ⟨u1, u2, rfl, r1, r2⟩ := vals2 r
  obtain rfl := (clsV_ok d).eq r2
  obtain ⟨P, Z, p, hn⟩ := isq_kit I r1 q
  exact PySem.W.kia_one Z I.kIn p e hn fun tk => ⟨.bl b, H, I.tok tk, rfl, w⟩
theorem call_isxT (ds : List String) : CallR X (.builtin "isinstance") (rIsxT X.K ds) := by
  intro pins s σ H xs us Q I r h
  obtain ⟨x, t, tp, b, rfl, hT, q, e, w⟩ := h
  obtain ⟨u1, u2, rfl, r1, r2⟩ := vals2 r
  obtain rfl : u2 = Value.ref tp := r2
  obtain ⟨P, Z, p, hn⟩ := isq_kit I r1 q
  obtain ⟨_, its, rv, o, h1, h2, n, h3⟩ := (show ObjOk X.prog X.w H s.heap tp (.tup (ds.map (clsV X.K))) from I.hok tp _ hT)
  obtain rfl := ClsV.all (clsVs ds) rv
  obtain ⟨oc, od, dt, sl⟩ := o
  simp only at h2 h3
  subst h2 h3
  exact PySem.W.kia_tup Z I.kIn p h1 e hn fun tk => ⟨.bl b, H, I.tok tk, rfl, w⟩
/-- e.f of a held refusal -/
def tFld (K : Frg) (n : Str) (te : TE) : TE := fun σ H Q => te σ H fun x H1 => ∃ a dx c fs v, x = .ref a ∧ XcC K c ∧ n ∈ xFlds c ∧ H1 a = some (hx a (clsA K c) dx) ∧ H1 dx = some (.xd fs) ∧ fs.lookup n = some v ∧ Q v H1
theorem pe_fld {e : Expr} {te : TE} {pos : Pos} {n : Str} (he : PE X e te) (hb : attributeBase e n X.env (eval e X.env) = eval e X.env) : PE X (.Attribute e n pos) (tFld X.K n te) := by
  refine ⟨fun pins s σ H Q I h => attr_of hb (thn (he.run pins s σ H _ I h) fun u s1 hh => ?_)⟩
  obtain ⟨x, H1, J, rx, a, dx, c, fs, v, rfl, T, hn, ea, ed, l, q⟩ := hh
  obtain rfl : u = Value.ref a := rx
  obtain ⟨oe, od, mA, K1, hl, hr⟩ := xc_inst J.hok ea ed
  obtain ⟨u2, hu, ru⟩ := RelO.some_of (v := v) (o := mA n) (by rw [← l]; exact hr n)
  exact HandSPX.exc_get J.kIn K1 T.xf.ga T.xf.gg T.xf.exC (PySem.W.findObj_own T.xf.hdC (T.fn n hn) rfl (by rw [hl, hu])) (handed_of ru) ⟨v, H1, J.tok _, ru, q⟩
end
end DL

set_option Elab.async false
set_option linter.all false
set_option maxRecDepth 100000
set_option maxHeartbeats 4000000
namespace DL
open PySem L2 PySem.Spec PyProof.Rows
/-! a caught refusal is tracked from the catch on -/
section
variable {X : Cx} {pins : List (Addr × Obj)} {σ : L2.St} {H : Hp} {s sI s' : Shared} {B : Heap} {a C dx : Addr}
theorem hx_ok {P : Program} {w : World} {H : Hp} {h : Heap} (e : ∃ oe, h.get? a = some oe ∧ Zc (.ref C) (some dx) oe ∧ ∃ vs, oe.data = .fields vs) : ObjOk P w H h a (hx a C dx) := by
  obtain ⟨oe, h1, h2⟩ := id e
  exact ⟨e, ⟨oe, h1⟩, fun g1 g2 ⟨ob, k1, k2⟩ k => ⟨ob, k _ k1, k2⟩⟩
theorem landX (I : Inv X pins σ H sI) (nb : ∀ b o, sI.heap.get? b = some o → b ∉ frs X.stack → B.get? b = some o) (st : B.StaysIn s'.heap) (up : sI.heap.UpToSlots s'.heap) (os : s'.os = sI.os) (ag : AllBare s'.gens)
    (gone : sI.heap.get? a = none) (na : H a = none) (he : ∃ oe, s'.heap.get? a = some oe ∧ Zc (.ref C) (some dx) oe ∧ ∃ vs, oe.data = .fields vs) : Inv X pins σ (upd H a (hx a C dx)) s' := by
  have ne : ∀ {b : Addr} {o : Obj}, sI.heap.get? b = some o → b ≠ a := fun e z => by
    rw [z, gone] at e
    cases e
  have slots : ∀ b ∈ frs X.stack, ∀ o, sI.heap.get? b = some o → ∃ sl, s'.heap.get? b = some { o with slots := sl } := fun b hb o e => by
    obtain ⟨_, o2, e2, nof⟩ := I.stack.mem hb
    rw [e] at e2
    cases e2
    exact up b o e nof
  have U : Un (frs X.stack) [] H (upd H a (hx a C dx)) sI.heap s'.heap := {
    keep := fun b o e _ out _ => st b o (nb b o e out)
    slot := fun b o e _ inn _ => slots b inn o e
    free := fun b o e n _ => (upd_ne (ne e)).trans n
    there := fun b o e _ => by
      by_cases inn : b ∈ frs X.stack
      · obtain ⟨sl, q⟩ := slots b inn o e
        exact ⟨_, q⟩
      · exact ⟨o, st b o (nb b o e inn)⟩
    tups := fun b xs e => (upd_ne (ne_of_none e na)).trans e
    frzs := fun b o u e => (upd_ne (ne_of_none e na)).trans e
    tbls := fun b ps e => ⟨#[], by rw [upd_ne (ne_of_none e na), e]; simp⟩ }
  refine I.call' (ch := []) os U (fun b u e => ?_) ag (fun _ z => nomatch z)
  by_cases hb : b = a
  · subst hb
    rw [upd_same] at e
    cases e
    exact hx_ok he
  · rw [upd_ne hb] at e
    exact (((I.inGround nb).kept st) b u e).stay (fun _ _ _ r => r) (fun c r => (upd_ne (ne_of_none r na)).trans r) fun c xs r => (upd_ne (ne_of_none r na)).trans r
theorem suiteX (I : Inv X pins σ H s) (a : Addr) : Inv (X.suite a (X.pn ++ pins)) [] σ H s :=
  ⟨I.ok.suite _ _, I.os, I.bare, I.base, I.loc, I.cell, I.free, I.freeC, fun p hp => I.pin p ((List.append_nil (X.pn ++ pins)) ▸ hp), I.hok, I.len⟩
theorem unsuiteX {pn' : List (Addr × Obj)} (I : Inv (X.suite a (X.pn ++ pins)) pn' σ H s) (ok : X.Ok) : Inv X pins σ H s :=
  ⟨ok, I.os, I.bare, I.base, I.loc, I.cell, I.free, I.freeC, fun p hp => I.pin p (List.mem_append_left pn' hp), I.hok, I.len⟩
end
def setO (i : Option Nat) (σ : L2.St) (v : V) : L2.St := match i with
  | some i => σ.set i (some v)
  | none => σ
def wipeO (i : Option Nat) (σ : L2.St) : L2.St := match i with
  | some i => σ.set i none
  | none => σ
def endsO (i : Option Nat) (D : Ends) : Ends := { nx := fun σ H => D.nx (wipeO i σ) H, rt := D.rt, bk := fun σ H => D.bk (wipeO i σ) H, ct := fun σ H => D.ct (wipeO i σ) H }
/-- what 'except x (as n)' wishes of a refusal that leaves the body -/
def wDat (K : Frg) (cv : Value) (i : Option Nat) (ts : TS) (Wout : WX) (D : Ends) : WX := fun cls d σ H => ∃ (C dx : Addr) (b : Bool), cls = .ref C ∧ d = some dx ∧ PySem.W.exmOne K cls cv = some b ∧
  (b = true → ∀ a, H a = none → ts (endsO i D) (setO i σ (.ref a)) (upd H a (hx a C dx))) ∧ (b = false → Wout cls d σ H)
section
variable {X : Cx} {x : Str} {cv : Value} {i : Option Nat} {nm : Option Str} {body suite : List Stmt} {b₀ : Stmt} {np pos pos' : Pos} {tb : WX → TS} {ts : TS} {Wout : WX}
/-- the name's slot -/
def nmOk (X : Cx) (i : Option Nat) (nm : Option Str) : Prop := match i, nm with
  | some i, some n => X.N[i]? = some n ∧ X.env.kindOf n = some .local
  | none, none => True
  | _, _ => False
theorem ps_tryD (hs : X.stack = X.env :: X.outer) (hf : X.env.frame = some X.env.locals) (hN : X.N.Nodup) (hi : nmOk X i nm) (hc : Names X x cv) (tk : Takes X Wout)
    (hb : ∀ (W : WX) (pn : List (Addr × Obj)) (xe : Value → Shared → Prop), Takes (X.tr pn xe) W → PassesOwn (model X.prog X.w) X.A X.env xe → PSs (X.tr pn xe) body (tb W))
    (hsu : ∀ (a : Addr) (pn : List (Addr × Obj)), PSs (X.suite a pn) (b₀ :: suite) ts) :
    PS X (.Try body [.ExceptHandler (some (.Name x np)) nm (b₀ :: suite) pos'] [] [] pos) (fun D σ H => tb (wDat X.K cv i ts Wout D) D σ H) := by
  refine ⟨fun pins s σ H D I h => wpAny_Try_except ?_⟩
  have ok := I.ok
  have fr0 : X.A.frames = some (X.env :: X.outer) := ok.frames.trans (by rw [hs])
  let cl : ExceptHandler := .ExceptHandler (some (.Name x np)) nm (b₀ :: suite) pos'
  let xe : Value → Shared → Prop := fun e s₁ => wpAny (model X.prog X.w) X.A (noteFrame e X.env) (fun _ s₂ => wpAny (model X.prog X.w) X.A (setFlight e none)
    (fun _ s₃ => wpAny (model X.prog X.w) X.A (handleBy e X.env [cl]) (SP X pins D) X.xe s₃) X.xe s₂) X.xe s₁
  have taken : Takes (X.tr (X.pn ++ pins) xe) (wDat X.K cv i ts Wout D) := by
    intro u s' ⟨a, B, sI, pins', σ', H', cls, d, eu, J', nb, up, sky, na, os, ag, C, dx, b, ec, ed, hm, yes, no⟩
    subst eu ec ed
    have J : Inv X pins σ' H' sI := J'.ofTry ok
    have nb' : ∀ b o, sI.heap.get? b = some o → b ∉ frs X.stack → B.get? b = some o := nb
    have sky2 : Sky B (X.env :: X.outer) a (Zc (.ref C) (some dx)) X.env.locals s'.heap := by
      rw [← hs]
      exact sky
    show wpAny _ X.A (noteFrame (.ref a) X.env) _ _ _
    refine Sky.land Zc.steady fr0 hf sky2 fun h3 fly3 up3 => ?_
    have J3 : Inv X pins σ' H' { s' with heap := h3 } := J.landed nb fly3.1 (up.trans up3) os ag
    obtain ⟨oe3, vs3, g3, z3, d3⟩ := fly3.there
    have outB : B.get? a = none := fly3.2.1
    have notFr : a ∉ frs X.stack := fun inn => by
      have ff := fly3.2.2.1
      rw [← hs] at ff
      obtain ⟨_, o2, e2, nof⟩ := ff.mem inn
      rw [g3] at e2
      cases e2
      exact nof _ d3
    have gone : sI.heap.get? a = none := by
      cases q : sI.heap.get? a with
      | none => rfl
      | some o =>
        have z := nb' a o q notFr
        rw [outB] at z
        cases z
    refine wpAny_handleBy_cons (codeAny_handlers_test ?_) (by intro q; cases q)
    have LT : PySem.W.Looks (model X.prog X.w) h3 (typeOf (.ref a)) (.ref C) := fun A' Q' E' s2 k q => wpAny_typeOf_ref (k _ _ g3) (by rw [z3.1]; exact q)
    have LM := PySem.W.exm_one (M := model X.prog X.w) J3.kIn LT hm
    have test : ∀ {Q : Value → Shared → Prop} {E : Value → Shared → Prop}, Q cv { s' with heap := h3 } → wpAny (model X.prog X.w) (X.A.mark (some (.ref a))) (eval (.Name x np) X.env) Q E { s' with heap := h3 } := fun {Q E} q => by
      have S3 := suiteX J3 a
      obtain ⟨hg, nodbg, gm | ⟨gm, gv, nn⟩⟩ := hc
      · exact ld_glob (X := X.suite a (X.pn ++ pins)) S3 hg gm q nodbg
      · exact ld_blt (X := X.suite a (X.pn ++ pins)) S3 hg gm gv q nn nodbg
    refine test (LM.here ?_)
    cases b with
    | false =>
      show wpAny _ X.A (handleBy (.ref a) X.env []) _ _ _
      refine wpAny_handleBy_nil ?_
      obtain ⟨k1, k2, k3, oe, vs, T, oT, tv, e1, e2, e3, e4, e5⟩ := id fly3
      unfold PySem.passOn
      refine wpAny_bind (wpAny_field e1 e3 e4 ?_)
      rw [if_neg (show ¬ ((Value.ref T == Value.none) = true) by simp)]
      have fin : wpAny (model X.prog X.w) X.A (setFlight (.ref a) X.env.frame) (fun _ s4 => wpAny (model X.prog X.w) X.A (throw (.ref a) : Sem Flow) (SP X pins D) X.xe s4) X.xe { s' with heap := h3 } := by
        rw [hf]
        refine HandSPX.setFlight_upZ fly3 fun h4 held4 up4 => wpAny_throw (tk _ _ ?_)
        exact ⟨a, B, sI, pins, σ', H', _, _, rfl, J, nb, (up.trans up3).trans up4, .inr (.inr (by rw [hs]; exact held4)), na, os, ag, no rfl⟩
      first
        | exact wpAny_bind (wpAny_pure (wpAny_bind fin))
        | exact wpAny_bind fin
    | true =>
      have wish := yes rfl a na
      have goal : ∀ {h4 : Heap}, HandSPX.FlyingZ B (X.env :: X.outer) a (Zc (.ref C) (some dx)) h4 → h3.UpToSlots h4 → Inv X pins σ' (upd H' a (hx a C dx)) { s' with heap := h4 } := fun {h4} fly4 up4 => by
        obtain ⟨oe4, vs4, g4, z4, d4⟩ := fly4.there
        exact landX (s' := { s' with heap := h4 }) J nb' fly4.1 ((up.trans up3).trans up4) os ag gone na ⟨oe4, g4, z4, vs4, d4⟩
      cases i with
      | none =>
        cases nm with
        | some n => exact hi.elim
        | none =>
          refine codeAny_handlers_suite ?_
          refine HandSPX.lands_againZ fly3 fun h4 fly4 up4 => ?_
          have S4 := suiteX (goal fly4 up4) a
          refine wpAny_mono ((hsu a (X.pn ++ pins)).run [] _ _ _ _ S4 wish) (fun f s6 hsp => ?_) (fun _ _ z => False.elim z)
          cases f with
          | ret u =>
            obtain ⟨v6, σ6, H6, S6, r6, q6⟩ := hsp
            exact ⟨v6, σ6, H6, unsuiteX S6 ok, r6, q6⟩
          | next | brk | cont =>
            obtain ⟨σ6, H6, S6, q6⟩ := hsp
            exact ⟨σ6, H6, unsuiteX S6 ok, q6⟩
      | some i =>
        cases nm with
        | none => exact hi.elim
        | some n =>
          obtain ⟨hi, loc⟩ := hi
          refine codeAny_handlers_suite_as ?_
          refine HandSPX.lands_againZ fly3 fun h4 fly4 up4 => ?_
          have S4 := suiteX (goal fly4 up4) a
          refine store_ok (X := X.suite a (X.pn ++ pins)) (v := .ref a) S4 hN hi (.inl loc) rfl (fun s5 S5 => ?_) (.inr loc)
          refine wpAny_mono ((hsu a (X.pn ++ pins)).run [] s5 _ _ _ S5 wish) (fun f s6 hsp => ?_) (fun _ _ z => False.elim z)
          have off : ∀ {σ6 : L2.St} {H6 : Hp} {Q : Shared → Prop}, Inv (X.suite a (X.pn ++ pins)) [] σ6 H6 s6 → (∀ s7, Inv X pins (σ6.set i none) H6 s7 → Q s7) →
              wpAny (model X.prog X.w) X.A (do bindName X.env n .none; unbindBehindTheSuite X.env n pos') (fun _ s7 => Q s7) X.xe s6 := fun {σ6 H6 Q} S6 hq => gone_ok (unsuiteX S6 ok) hN hi loc hq
          cases f with
          | ret u =>
            obtain ⟨v6, σ6, H6, S6, r6, q6⟩ := hsp
            exact off S6 fun s7 J7 => ⟨v6, _, H6, J7, r6, q6⟩
          | next | brk | cont =>
            obtain ⟨σ6, H6, S6, q6⟩ := hsp
            exact off S6 fun s7 J7 => ⟨_, H6, J7, q6⟩
  refine wpAny_mono ((hb _ (X.pn ++ pins) xe taken PassesOwn.looking).run [] s σ H D (I.toTry _) h) (fun f s1 hsp => ?_) (fun e s1 he => he)
  cases f with
  | next =>
    obtain ⟨σ1, H1, J1, q⟩ := hsp
    exact wpAny_execs_nil ⟨σ1, H1, J1.ofTry ok, q⟩
  | ret u =>
    obtain ⟨v, σ1, H1, J1, r, q⟩ := hsp
    exact ⟨v, σ1, H1, J1.ofTry ok, r, q⟩
  | brk | cont =>
    obtain ⟨σ1, H1, J1, q⟩ := hsp
    exact ⟨σ1, H1, J1.ofTry ok, q⟩
end
end DL

set_option Elab.async false
set_option linter.all false
set_option maxRecDepth 100000
set_option maxHeartbeats 4000000
namespace DL
open PySem L2

/-! the small language: names by slots, no places -/
inductive BF where
  | len | abs | max | min | sum | all | any | repr | str | int | list | tuple | sset | sor | mnp | ldc | mxp | srp
  deriving DecidableEq
inductive MF where
  | append | pop | extend | insert | index | count | reverse
  deriving DecidableEq
inductive IE where
  | var (i : Nat) | con (x : String) | int (n : Int) | bl (b : Bool) | str (s : Str) | non
  | bin (op : Operator) (a b : IE) | neg (a : IE) | not (a : IE)
  | and (a b : IE) | or (a b : IE) | one (a : IE)
  | cmp (op : CmpOp) (a b : IE) | chn (op op' : CmpOp) (a b c : IE) | ch3 (o1 o2 o3 : CmpOp) (a b c d : IE)
  | ite (t a b : IE)
  | tup (xs : IE) | lst (xs : IE) | nil | cons (a r : IE)
  | ix (a i : IE) | sl (a lo hi : IE) | rev (a : IE) | srt (a : IE) | sl2 (a : IE) | bk1 (a : IE) | lzip (a b : IE)
  | isi (a : IE) (T : List String)
  | blt (f : BF) (xs : IE) | mth (m : MF) (o xs : IE) | call (f : String) (xs : IE)
  | comp (elt : IE) (vs : List Nat) (tg : List Nat) (it cond : IE)
  | rng1 (a : IE) | rng2 (a b : IE) | zip (a b : IE) | enum (a : IE)
  | isx (a : IE) (T : List String) | fld (a : IE) (n : String) | calh (f : String) (xs : IE) | xcl (f : String) (xs : IE)
  | dnew | dsd (o xs : IE)
  | mxd (a : IE) | compd (elt : IE) (vs : List Nat) (tg : List Nat) (i : Nat) (cond : IE)
inductive IG where
  | v (i : Nat) | t (xs : IG) | nil | cons (a r : IG) | sub (o i : IE)
inductive IS where
  | skip | seq (s r : IS)
  | asg (g : IG) (e : IE) | par (is : List Nat) (xs : IE) | aug (i : Nat) (op : Operator) (e : IE)
  | ex (e : IE) | rse | ret (e : IE) | retn | pass | brk | cnt
  | ite (t : IE) (a b : IS) | whl (t : IE) (b : IS) | for_ (g : IG) (it : IE) (b : IS)
  | rsx (c : String) (xs : IE) | asx (g : IG) (e : IE) | exx (e : IE) | rtx (e : IE) | try_ (b : IS) (c : String) (i : Option Nat) (h : IS)

abbrev En := List (Option D)
abbrev Kn := D → Mem → Prop
abbrev DSpec := List D → Mem → Kn → Prop
abbrev Gam := String → DSpec
structure DE where
  nx : En → Mem → Prop
  rt : Kn
  bk : En → Mem → Prop := fun _ _ => False
  ct : En → Mem → Prop := fun _ _ => False
  xx : En → String → List D → Mem → Prop := fun _ _ _ _ => False

def getV : En → Nat → Option D
  | [], _ => none
  | x :: _, 0 => x
  | _ :: r, n + 1 => getV r n
def setV : En → Nat → D → En
  | [], _, _ => []
  | _ :: r, 0, d => some d :: r
  | x :: r, n + 1, d => x :: setV r n d
def wipeV : En → Nat → En
  | [], _ => []
  | _ :: r, 0 => none :: r
  | x :: r, n + 1 => x :: wipeV r n
def wipesV (ρ : En) : List Nat → En
  | [] => ρ
  | v :: vs => wipeV (wipesV ρ vs) v
def onV {α : Type} (o : Option α) (Q : α → Prop) : Prop := match o with
  | some d => Q d
  | none => False
theorem onV_some {α : Type} (d : α) (Q : α → Prop) : onV (some d) Q = Q d := rfl
theorem onV_ex {α : Type} {o : Option α} {Q : α → Prop} (h : onV o Q) : ∃ d, o = some d ∧ Q d := by
  cases o with
  | none => exact h.elim
  | some d => exact ⟨d, rfl, h⟩

/-- what a list, a tuple, the script holds -/
def seqOf (M : Mem) : D → Option (List D)
  | .lst n => M[n]?
  | .tup xs => some xs
  | .scr ns => some (ns.map D.int)
  | _ => none

/-! operations -/
def isOk (M : Mem) (x y : D) (Q : Bool → Prop) : Prop := ∃ p q, PD M x p ∧ PD M y q ∧ SeqAt.shaped p = true ∧ SeqAt.shaped q = true ∧ Q (PyData.eqv p q)
def eqD (x y : D) (M : Mem) (Q : Bool → Prop) : Prop := match x, y with
  | .int i, .int j => Q (decide (i = j))
  | .bl i, .bl j => Q (decide (i = j))
  | .non, .non => Q true
  | .str a, .str b => Q (decide (a = b))
  | x, y => isOk M x y Q
/-- a module's constant -/
def S_con (d : D) : DSpec := fun ds M Q => ds = [] ∧ Q d M
def conNames : List String := ["SORTS", "SORTS_rims", "FLAT", "MOST_FIGURES", "FIGURES", "PUT", "TAKE", "NONE", "OTHER", "ONE", "NOTHING"]
def isNon : D → Bool
  | .non => true
  | _ => false
/-- a dict's table: what is held at a point, a point's value put -/
def valP (ls : Tab) (p : Int × Int) : Option D := (ls.find? fun e => decide (e.1 = p)).map (·.2)
def putP (ls : Tab) (p : Int × Int) (v : D) : Tab :=
  if (ls.any fun e => decide (e.1 = p)) = true then ls.map (fun e => if e.1 = p then (e.1, v) else e) else ls ++ [(p, v)]
/-- x in y: a list, a tuple, a dict -/
def inD (x y : D) (M : Mem) (R : Bool → Prop) : Prop := match y with
  | .dct n => ∃ ls a b, x = .tup [.int a, .int b] ∧ M[n]? = some (dcD ls) ∧ R (valP ls (a, b)).isSome
  | y => ∃ xs p ps, seqOf M y = some xs ∧ PD M x p ∧ PDL M xs ps ∧ SeqAt.shaped p = true ∧ SeqAt.shaped (.list ps) = true ∧ R (ps.any fun z => PyData.eqv z p)
def cmpD (op : CmpOp) (x y : D) (M : Mem) (Q : Kn) : Prop := match op with
  | .Eq => eqD x y M fun b => Q (.bl b) M
  | .NotEq => eqD x y M fun b => Q (.bl (!b)) M
  | .Lt => (match x, y with | .int i, .int j => Q (.bl (decide (i < j))) M | .tup [.int a, .int b], .tup [.int c, .int d] => Q (.bl (decide (a < c ∨ (a = c ∧ b < d)))) M | _, _ => False)
  | .LtE => (match x, y with | .int i, .int j => Q (.bl (decide (i ≤ j))) M | _, _ => False)
  | .Gt => (match x, y with | .int i, .int j => Q (.bl (decide (j < i))) M | .tup [.int a, .int b], .tup [.int c, .int d] => Q (.bl (decide (c < a ∨ (c = a ∧ d < b)))) M | _, _ => False)
  | .GtE => (match x, y with | .int i, .int j => Q (.bl (decide (j ≤ i))) M | _, _ => False)
  | .Is => (match x, y with | x, .non => Q (.bl (isNon x)) M | .bl a, .bl b => Q (.bl (decide (a = b))) M | _, _ => False)
  | .IsNot => (match x, y with | x, .non => Q (.bl (!isNon x)) M | .bl a, .bl b => Q (.bl (!decide (a = b))) M | _, _ => False)
  | .In => inD x y M fun b => Q (.bl b) M
  | .NotIn => inD x y M fun b => Q (.bl (!b)) M
def lg (i : Int) : Nat := i.natAbs.log2
def b2 (b : Bool) : Int := if b = true then 1 else 0
def binD (op : Operator) (x y : D) (M : Mem) (Q : Kn) : Prop := match op, x, y with
  | .Add, .int i, .int j => Q (.int (i + j)) M
  | .Add, .str i, .str j => i.length + j.length ≤ sizeLine ∧ Q (.str (i ++ j)) M
  | .Add, .tup xs, .tup ys => xs.length + ys.length ≤ sizeLine ∧ Q (.tup (xs ++ ys)) M
  | .Add, .lst a, .lst b => onV M[a]? fun xs => onV M[b]? fun ys => xs.length + ys.length ≤ sizeLine ∧ Q (.lst M.length) (M ++ [xs ++ ys])
  | .Add, .bl i, .int j => Q (.int (b2 i + j)) M
  | .Sub, .int i, .int j => Q (.int (i - j)) M
  | .Sub, .bl i, .int j => Q (.int (b2 i - j)) M
  | .Sub, .int i, .bl j => Q (.int (i - b2 j)) M
  | .Mult, .int i, .int j => lg i + lg j < 1000000 ∧ Q (.int (i * j)) M
  | .FloorDiv, .int i, .int j => j ≠ 0 ∧ lg j < 9000 ∧ Q (.int (i.fdiv j)) M
  | .Mult, .int i, .bl j => Q (.int (i * b2 j)) M
  | .Mod, .bl i, .int j => j ≠ 0 ∧ Q (.int ((b2 i).fmod j)) M
  | .Mod, .int i, .int j => j ≠ 0 ∧ Q (.int (i.fmod j)) M
  | .Pow, .int i, .int j => 0 ≤ j ∧ j ≤ 1000000 ∧ i.natAbs < 2 ^ 64 ∧ Q (.int (i ^ j.toNat)) M
  | _, _, _ => False
def atD (xs : List D) (k : Int) : Option D := (ixN xs.length k).bind fun j => xs[j]?
def ixD (x i : D) (M : Mem) (Q : Kn) : Prop := match i with
  | .int k => onV (seqOf M x) fun xs => onV (atD xs k) fun v => Q v M
  | .tup [.int a, .int b] => ∃ n ls v, x = .dct n ∧ (M[n]? = some (dcD ls) ∨ M[n]? = some (dcF ls)) ∧ valP ls (a, b) = some v ∧ Q v M
  | _ => False
def cutD (xs : List D) (lo hi : Option Int) : List D := (xs.drop (HT.sIx xs.length 0 lo)).take (HT.sIx xs.length xs.length hi - HT.sIx xs.length 0 lo)
def slD (x : D) (lo hi : Option Int) (M : Mem) (Q : Kn) : Prop := match x with
  | .lst n => onV M[n]? fun xs => Q (.lst M.length) (M ++ [cutD xs lo hi])
  | .tup xs => Q (.tup (cutD xs lo hi)) M
  | .scr ns => Q (.lst M.length) (M ++ [cutD (ns.map D.int) lo hi])
  | _ => False
def revD (x : D) (M : Mem) (Q : Kn) : Prop := match x with
  | .lst n => onV M[n]? fun xs => Q (.lst M.length) (M ++ [xs.reverse])
  | .tup xs => Q (.tup xs.reverse) M
  | _ => False
/-- every second one -/
def ev2 : List D → List D
  | [] => []
  | [x] => [x]
  | x :: _ :: r => x :: ev2 r
def sl2D (x : D) (M : Mem) (Q : Kn) : Prop := match x with
  | .tup xs => Q (.tup (ev2 xs)) M
  | _ => False
/-- all but the first, turned about -/
def bk1D (x : D) (M : Mem) (Q : Kn) : Prop := match x with
  | .tup xs => Q (.tup xs.tail.reverse) M
  | _ => False
/-- isinstance by the written class -/
def tyD : D → Option String
  | .non => some "NoneType"
  | .bl _ => some "bool"
  | .int _ => some "int"
  | .str _ => some "str"
  | .tup _ => some "tuple"
  | .lst _ => some "list"
  | .scr _ => none
  | .exc _ _ => none
  | .exn _ _ => none
  | .dct _ => none
def isIn (t c : String) : Bool := c == t || (t == "bool" && c == "int")
def isiD (T : List String) (d : D) : Option Bool := match tyD d with
  | some t => some (T.any (isIn t))
  | none => none
/-- isinstance of a held refusal, of None, by the program's classes -/
def isxD (T : List String) : D → Option Bool
  | .exc c _ => some (T.any (subX c))
  | .non => some false
  | _ => none
def fldD (n : String) : D → Option D
  | .exc c fs => ((xFlds c).zip fs).lookup (Str.ofString n)
  | _ => none
def pt2 (p : Int × Int) : D := .tup [.int p.1, .int p.2]
/-- one point ahead of another one -/
def Lx (p q : Int × Int) : Prop := p.1 < q.1 ∨ (p.1 = q.1 ∧ p.2 < q.2)
/-- sorted(set(x)), x a list or a tuple of points -/
def srtP (x : D) (M : Mem) (Q : Kn) : Prop := ∃ ls : List (Int × Int), ((∃ n : Nat, x = .lst n ∧ M[n]? = some (ls.map pt2) ∧ ls.length < 64) ∨ (x = .tup (ls.map pt2) ∧ ∃ us : List (Int × Int), us.length ≤ 62 ∧ ∀ l ∈ ls, l ∈ us)) ∧
  ∀ ms : List (Int × Int), ms.length < 64 → (∀ l, l ∈ ms ↔ l ∈ ls) → ms.Pairwise Lx → Q (.lst M.length) (M ++ [ms.map pt2])
/-- sorted(set(x)), x a list of whole numbers -/
def srtI (x : D) (M : Mem) (Q : Kn) : Prop := ∃ (n : Nat) (ks : List Int), x = .lst n ∧ M[n]? = some (ks.map D.int) ∧ ks.length < 64 ∧ ∀ ks' : List Int, ks'.Pairwise (· < ·) → (∀ k, k ∈ ks' ↔ k ∈ ks) → ks'.length ≤ ks.length → Q (.lst M.length) (M ++ [ks'.map D.int])
def srtD (x : D) (M : Mem) (Q : Kn) : Prop := srtP x M Q ∨ srtI x M Q
def bfD (f : BF) (xs : List D) (M : Mem) (Q : Kn) : Prop := match f, xs with
  | .len, [x] => (match x with | .str s => s.length ≤ sizeLine ∧ Q (.int s.length) M | x => onV (seqOf M x) fun ys => Q (.int ys.length) M)
  | .abs, [.int i] => Q (.int (if i < 0 then -i else i)) M
  | .max, [.int i, .int j] => Q (.int (if j > i then j else i)) M
  | .max, [.int i, .int j, .int k] => Q (.int (if k > (if j > i then j else i) then k else (if j > i then j else i))) M
  | .min, [.int i, .int j] => Q (.int (if j < i then j else i)) M
  | .max, [.lst n] => ∃ ns : List Int, M[n]? = some (ns.map D.int) ∧ 0 < ns.length ∧ ∀ m, m ∈ ns → (∀ y, y ∈ ns → y ≤ m) → Q (.int m) M
  | .min, [.lst n] => ∃ ns : List Int, M[n]? = some (ns.map D.int) ∧ 0 < ns.length ∧ ∀ m, m ∈ ns → (∀ y, y ∈ ns → m ≤ y) → Q (.int m) M
  | .sum, [.lst n] => ∃ ns : List Int, M[n]? = some (ns.map D.int) ∧ Q (.int ns.sum) M
  | .all, [.lst n] => ∃ ns : List Bool, M[n]? = some (ns.map D.bl) ∧ Q (.bl (ns.all id)) M
  | .any, [.lst n] => ∃ ns : List Bool, M[n]? = some (ns.map D.bl) ∧ Q (.bl (ns.any id)) M
  | .repr, [x] => ∃ p, PD M x p ∧ p.showable = true ∧ p.hasDict = false ∧ p.depth ≤ 50 ∧ p.shown.length ≤ sizeLine ∧ Q (.str p.shown) M
  | .str, [.int i] => lg i < 1920 ∧ Q (.str (toString i)) M
  | .int, [.int i] => Q (.int i) M
  | .int, [.bl b] => Q (.int (if b then 1 else 0)) M
  | .list, [x] => onV (seqOf M x) fun ys => Q (.lst M.length) (M ++ [ys])
  | .sor, [.lst n] => ∃ ns : List Int, M[n]? = some (ns.map D.int) ∧ ∀ ns' : List Int, ns'.Perm ns → ns'.Pairwise (· ≤ ·) → Q (.lst M.length) (M ++ [ns'.map D.int])
  | .tuple, [x] => onV (seqOf M x) fun ys => Q (.tup ys) M
  | .ldc, [.dct n] => ∃ ls : Tab, M[n]? = some (dcD ls) ∧ Q (.lst M.length) (M ++ [ls.map fun e => pt2 e.1])
  | .mxp, [.tup xs] => ∃ ls : List (Int × Int), xs = ls.map pt2 ∧ ls ≠ [] ∧ ∀ p ∈ ls, (∀ q ∈ ls, ¬ Lx p q) → Q (pt2 p) M
  | .srp, [.lst n] => ∃ ls : List (Int × Int), M[n]? = some (ls.map pt2) ∧ ∀ ms : List (Int × Int), ms.Perm ls → (ms.Pairwise fun x y => ¬ Lx y x) → Q (.lst M.length) (M ++ [ms.map pt2])
  | .mnp, [.lst n] => ∃ ls : List (Int × Int), M[n]? = some (ls.map pt2) ∧ ls ≠ [] ∧ ∀ p ∈ ls, (∀ q ∈ ls, ¬ Lx q p) → Q (pt2 p) M
  | _, _ => False
def mfD (m : MF) (o : D) (xs : List D) (M : Mem) (Q : Kn) : Prop := match m, o, xs with
  | .append, .lst n, [x] => onV M[n]? fun ys => ys.length < sizeLine ∧ Q .non (M.set n (ys ++ [x]))
  | .extend, .lst n, [.lst k] => onV M[n]? fun ys => onV M[k]? fun zs => ys.length + zs.length ≤ sizeLine ∧ Q .non (M.set n (ys ++ zs))
  | .pop, .lst n, [] => onV M[n]? fun ys => onV ys[ys.length - 1]? fun y => Q y (M.set n ys.dropLast)
  | .pop, .lst n, [.int i] => onV M[n]? fun ys => 0 ≤ i ∧ i < ys.length ∧ ys.length < 2 ^ 62 ∧ onV ys[i.toNat]? fun y => Q y (M.set n (ys.eraseIdx i.toNat))
  | .index, .lst n, [x] => ∃ xs p ps j z, M[n]? = some xs ∧ PD M x p ∧ PDL M xs ps ∧ SeqAt.shaped (.list ps) = true ∧ SeqAt.shaped p = true ∧ ps[j]? = some z ∧ PyData.eqv z p = true ∧ (∀ (m : Nat) z', m < j → ps[m]? = some z' → PyData.eqv z' p = false) ∧ Q (.int (j : Nat)) M
  | .reverse, .lst n, [] => onV M[n]? fun ys => Q .non (M.set n ys.reverse)
  | .count, .lst n, [.int k] => ∃ ns : List Int, M[n]? = some (ns.map D.int) ∧ Q (.int (ns.count k : Nat)) M
  | .count, .lst n, [.bl b] => ∃ bs : List Bool, M[n]? = some (bs.map D.bl) ∧ bs.length ≤ 1000 ∧ Q (.int (bs.count b : Nat)) M
  | .insert, .lst n, [.int i, x] => onV M[n]? fun ys => ys.length < sizeLine ∧ 0 ≤ i ∧ i < 2 ^ 63 ∧ Q .non (M.set n (ys.take i.toNat ++ [x] ++ ys.drop i.toNat))
  | _, _, _ => False

/-! what a loop walks -/
inductive Src where
  | val (d : D) | rng (lo : Int) (n : Nat) | zip (a b : D) | enum (a : D)
def pr (x y : D) : D := .tup [x, y]
def rngD (lo : Int) : Nat → List D
  | 0 => []
  | n + 1 => .int lo :: rngD (lo + 1) n
def enumD (i : Int) : List D → List D
  | [] => []
  | x :: r => pr (.int i) x :: enumD (i + 1) r
def items (M : Mem) : Src → Option (List D)
  | .val d => seqOf M d
  | .rng lo n => some (rngD lo n)
  | .zip a b => match seqOf M a, seqOf M b with
    | some xs, some ys => some (List.zipWith pr xs ys)
    | _, _ => none
  | .enum a => match seqOf M a with
    | some xs => some (enumD 0 xs)
    | none => none

/-- d.setdefault(k, v) -/
def dsD (x : D) (ds : List D) (M : Mem) (Q : Kn) : Prop := ∃ n ls a b z, x = .dct n ∧ ds = [.tup [.int a, .int b], z] ∧ M[n]? = some (dcD ls) ∧ ls.length < sizeLine ∧
  (∀ v, valP ls (a, b) = some v → Q v M) ∧ (valP ls (a, b) = none → Q z (M.set n (dcD (putP ls (a, b) z))))
def setsV : En → List Nat → List D → Option En
  | ρ, [], [] => some ρ
  | ρ, i :: is, d :: ds => setsV (setV ρ i d) is ds
  | _, _, _ => none
/-- the target of a comprehension: one name, or a tuple of names -/
def tgV (tg : List Nat) (x : D) (ρ : En) (Q : En → Prop) : Prop := match tg with
  | [i] => Q (setV ρ i x)
  | is => match x with
    | .tup ds => (match setsV ρ is ds with | some ρ' => Q ρ' | none => False)
    | _ => False

/-- what a call that may refuse hands on -/
def spl (Q : Kn) (X : String → List D → Mem → Prop) : Kn := fun d M => match d with
  | .exn c fs => X c fs M
  | d => Q d M
mutual
def wpE (G : Gam) : IE → En → Mem → Kn → Prop
  | .var i, ρ, M, Q => onV (getV ρ i) fun d => Q d M
  | .int n, _, M, Q => Q (.int n) M
  | .bl b, _, M, Q => Q (.bl b) M
  | .str s, _, M, Q => Q (.str s) M
  | .non, _, M, Q => Q .non M
  | .bin op a b, ρ, M, Q => wpE G a ρ M fun x M1 => wpE G b ρ M1 fun y M2 => binD op x y M2 Q
  | .neg a, ρ, M, Q => wpE G a ρ M fun x M1 => ∃ i, x = .int i ∧ Q (.int (-i)) M1
  | .not a, ρ, M, Q => wpE G a ρ M fun x M1 => ∃ c, x = .bl c ∧ Q (.bl (!c)) M1
  | .and a b, ρ, M, Q => wpE G a ρ M fun x M1 => ∃ c, x = .bl c ∧ if c = true then wpE G b ρ M1 Q else Q (.bl false) M1
  | .or a b, ρ, M, Q => wpE G a ρ M fun x M1 => ∃ c, x = .bl c ∧ if c = true then Q (.bl true) M1 else wpE G b ρ M1 Q
  | .one a, ρ, M, Q => wpE G a ρ M Q
  | .cmp op a b, ρ, M, Q => wpE G a ρ M fun x M1 => wpE G b ρ M1 fun y M2 => cmpD op x y M2 Q
  | .chn op op' a b c, ρ, M, Q => wpE G a ρ M fun x M1 => wpE G b ρ M1 fun y M2 => cmpD op x y M2 fun t M3 => ∃ k, t = .bl k ∧
      if k = true then wpE G c ρ M3 fun z M4 => cmpD op' y z M4 Q else Q (.bl false) M3
  | .ch3 o1 o2 o3 a b c d, ρ, M, Q => wpE G a ρ M fun x M1 => wpE G b ρ M1 fun y M2 => cmpD o1 x y M2 fun t M3 => ∃ k, t = .bl k ∧
      if k = true then wpE G c ρ M3 fun z M4 => cmpD o2 y z M4 fun t' M5 => ∃ k', t' = .bl k' ∧ (if k' = true then wpE G d ρ M5 fun u M6 => cmpD o3 z u M6 Q else Q (.bl false) M5) else Q (.bl false) M3
  | .ite t a b, ρ, M, Q => wpT G t ρ M fun c M1 => if c = true then wpE G a ρ M1 Q else wpE G b ρ M1 Q
  | .tup xs, ρ, M, Q => wpA G xs ρ M fun ds M1 => ds.length ≤ sizeLine ∧ Q (.tup ds) M1
  | .lst xs, ρ, M, Q => wpA G xs ρ M fun ds M1 => ds.length ≤ sizeLine ∧ Q (.lst M1.length) (M1 ++ [ds])
  | .nil, _, _, _ => False
  | .cons _ _, _, _, _ => False
  | .ix a i, ρ, M, Q => wpE G a ρ M fun x M1 => wpE G i ρ M1 fun y M2 => ixD x y M2 Q
  | .sl a lo hi, ρ, M, Q => wpE G a ρ M fun x M1 => wpO G lo ρ M1 fun l M2 => wpO G hi ρ M2 fun h M3 => slD x l h M3 Q
  | .rev a, ρ, M, Q => wpE G a ρ M fun x M1 => revD x M1 Q
  | .sl2 a, ρ, M, Q => wpE G a ρ M fun x M1 => sl2D x M1 Q
  | .bk1 a, ρ, M, Q => wpE G a ρ M fun x M1 => bk1D x M1 Q
  | .srt a, ρ, M, Q => wpE G a ρ M fun x M1 => srtD x M1 Q
  | .lzip a b, ρ, M, Q => wpE G a ρ M fun x M1 => wpE G b ρ M1 fun y M2 => ∃ as bs, x = .tup as ∧ y = .tup bs ∧ min as.length bs.length < sizeLine ∧ Q (.lst M2.length) (M2 ++ [List.zipWith pr as bs])
  | .isi a T, ρ, M, Q => wpE G a ρ M fun x M1 => ∃ b, isiD T x = some b ∧ Q (.bl b) M1
  | .blt f xs, ρ, M, Q => wpA G xs ρ M fun ds M1 => bfD f ds M1 Q
  | .mth m o xs, ρ, M, Q => wpE G o ρ M fun x M1 => (∃ n, x = .lst n) ∧ wpA G xs ρ M1 fun ds M2 => mfD m x ds M2 Q
  | .call f xs, ρ, M, Q => wpA G xs ρ M fun ds M1 => G f ds M1 Q
  | .con x, _, M, Q => G x [] M Q
  | .comp elt vs tg it cond, ρ, M, Q => wpI G it ρ M fun src M1 => ∃ xs, items M1 src = some xs ∧ xs.length < sizeLine ∧ ∃ Pv : Nat → List D → Mem → Prop, Pv 0 [] M1 ∧
      (∀ i acc M, i ≤ xs.length → Pv i acc M → acc.length ≤ i ∧ items M src = some xs) ∧
      (∀ i x acc M, xs[i]? = some x → Pv i acc M → tgV tg x (wipesV ρ vs) fun ρ' => wpC G cond ρ' M fun b M2 =>
        if b = true then wpE G elt ρ' M2 fun y M3 => Pv (i + 1) (acc ++ [y]) M3 else Pv (i + 1) acc M2) ∧
      ∀ acc M, Pv xs.length acc M → Q (.lst M.length) (M ++ [acc])
  | .rng1 _, _, _, _ => False
  | .rng2 _ _, _, _, _ => False
  | .zip _ _, _, _, _ => False
  | .enum _, _, _, _ => False
  | .isx a T, ρ, M, Q => wpE G a ρ M fun x M1 => onV (isxD T x) fun b => Q (.bl b) M1
  | .fld a n, ρ, M, Q => wpE G a ρ M fun x M1 => onV (fldD n x) fun d => Q d M1
  | .dnew, _, M, Q => Q (.dct M.length) (M ++ [dcD []])
  | .dsd o xs, ρ, M, Q => wpE G o ρ M fun x M1 => (∃ n ls, x = .dct n ∧ M1[n]? = some (dcD ls)) ∧ wpA G xs ρ M1 fun ds M2 => dsD x ds M2 Q
  | .mxd a, ρ, M, Q => wpE G a ρ M fun x M1 => ∃ (n : Nat) (ns : List Int), x = .lst n ∧ M1[n]? = some (ns.map D.int) ∧ (ns = [] → Q (.int 0) M1) ∧ ∀ m, m ∈ ns → (∀ y, y ∈ ns → y ≤ m) → Q (.int m) M1
  | .compd elt vs tg i cond, ρ, M, Q => ∃ n ls, getV ρ i = some (.dct n) ∧ M[n]? = some (dcD ls) ∧ ls.length < sizeLine ∧ ∃ Pv : Nat → List D → Mem → Prop, Pv 0 [] (M.set n (dcF ls)) ∧
      (∀ j acc M, j ≤ ls.length → Pv j acc M → acc.length ≤ j ∧ M[n]? = some (dcF ls)) ∧
      (∀ j x acc M, (ls.map fun e => pt2 e.1)[j]? = some x → Pv j acc M → tgV tg x (wipesV ρ vs) fun ρ' => wpC G cond ρ' M fun b M2 =>
        if b = true then wpE G elt ρ' M2 fun y M3 => Pv (j + 1) (acc ++ [y]) M3 else Pv (j + 1) acc M2) ∧
      ∀ acc M, Pv ls.length acc M → Q (.lst M.length) (M.set n (dcD ls) ++ [acc])
  | .calh f xs, ρ, M, Q => wpA G xs ρ M fun ds M1 => G f ds M1 Q
  | .xcl f xs, ρ, M, Q => wpA G xs ρ M fun ds M1 => G f ds M1 (spl Q fun _ _ _ => False)
def wpT (G : Gam) : IE → En → Mem → (Bool → Mem → Prop) → Prop
  | .not a, ρ, M, Q => wpT G a ρ M fun c M1 => Q (!c) M1
  | .and a b, ρ, M, Q => wpT G a ρ M fun c M1 => if c = true then wpT G b ρ M1 Q else Q false M1
  | .or a b, ρ, M, Q => wpT G a ρ M fun c M1 => if c = true then Q true M1 else wpT G b ρ M1 Q
  | .one a, ρ, M, Q => wpT G a ρ M Q
  | .cmp op a b, ρ, M, Q => wpE G a ρ M fun x M1 => wpE G b ρ M1 fun y M2 => cmpD op x y M2 fun d M3 => ∃ c, d = .bl c ∧ Q c M3
  | .chn op op' a b c, ρ, M, Q => wpE G a ρ M fun x M1 => wpE G b ρ M1 fun y M2 => cmpD op x y M2 fun t M3 => ∃ k, t = .bl k ∧
      if k = true then wpE G c ρ M3 fun z M4 => cmpD op' y z M4 fun d M5 => ∃ c, d = .bl c ∧ Q c M5 else Q false M3
  | .ch3 o1 o2 o3 a b c d, ρ, M, Q => wpE G a ρ M fun x M1 => wpE G b ρ M1 fun y M2 => cmpD o1 x y M2 fun t M3 => ∃ k, t = .bl k ∧
      if k = true then wpE G c ρ M3 fun z M4 => cmpD o2 y z M4 fun t' M5 => ∃ k', t' = .bl k' ∧ (if k' = true then wpE G d ρ M5 fun u M6 => cmpD o3 z u M6 fun r M7 => ∃ c, r = .bl c ∧ Q c M7 else Q false M5) else Q false M3
  | .var i, ρ, M, Q => onV (getV ρ i) fun d => ∃ c, d = .bl c ∧ Q c M
  | .isi a T, ρ, M, Q => wpE G a ρ M fun x M1 => ∃ b, isiD T x = some b ∧ ∃ c, D.bl b = .bl c ∧ Q c M1
  | .blt f xs, ρ, M, Q => wpA G xs ρ M fun ds M1 => bfD f ds M1 fun d M2 => ∃ c, d = .bl c ∧ Q c M2
  | .call f xs, ρ, M, Q => wpA G xs ρ M fun ds M1 => G f ds M1 fun d M2 => ∃ c, d = .bl c ∧ Q c M2
  | .isx a T, ρ, M, Q => wpE G a ρ M fun x M1 => onV (isxD T x) fun b => ∃ c, D.bl b = .bl c ∧ Q c M1
  | .calh f xs, ρ, M, Q => wpA G xs ρ M fun ds M1 => G f ds M1 fun d M2 => ∃ c, d = .bl c ∧ Q c M2
  | .ix a i, ρ, M, Q => wpE G a ρ M fun x M1 => wpE G i ρ M1 fun y M2 => ixD x y M2 fun d M3 => ∃ c, d = .bl c ∧ Q c M3
  | _, _, _, _ => False
def wpC (G : Gam) : IE → En → Mem → (Bool → Mem → Prop) → Prop
  | .nil, _, M, Q => Q true M
  | .cons t _, ρ, M, Q => wpT G t ρ M Q
  | _, _, _, _ => False
def wpA (G : Gam) : IE → En → Mem → (List D → Mem → Prop) → Prop
  | .nil, _, M, Q => Q [] M
  | .cons a r, ρ, M, Q => wpE G a ρ M fun x M1 => wpA G r ρ M1 fun xs M2 => Q (x :: xs) M2
  | _, _, _, _ => False
def wpO (G : Gam) : IE → En → Mem → (Option Int → Mem → Prop) → Prop
  | .nil, _, M, Q => Q none M
  | .cons a _, ρ, M, Q => wpE G a ρ M fun x M1 => ∃ i, x = .int i ∧ Q (some i) M1
  | _, _, _, _ => False
def wpI (G : Gam) : IE → En → Mem → (Src → Mem → Prop) → Prop
  | .rng1 a, ρ, M, Q => wpE G a ρ M fun x M1 => ∃ j, x = .int j ∧ (-(2 ^ 62) ≤ j ∧ j < 2 ^ 62) ∧ Q (.rng 0 j.toNat) M1
  | .rng2 a b, ρ, M, Q => wpE G a ρ M fun x M1 => wpE G b ρ M1 fun y M2 => ∃ i j, x = .int i ∧ y = .int j ∧ (-(2 ^ 62) ≤ j - i ∧ j - i < 2 ^ 62) ∧ Q (.rng i (j - i).toNat) M2
  | .zip a b, ρ, M, Q => wpE G a ρ M fun x M1 => wpE G b ρ M1 fun y M2 => Q (.zip x y) M2 ∧ ((∃ m n xs ys, x = .lst m ∧ y = .lst n ∧ M2[m]? = some xs ∧ M2[n]? = some ys) ∨ (∃ xs ys, x = .tup xs ∧ y = .tup ys) ∨ ∃ xs n ys, x = .tup xs ∧ y = .lst n ∧ M2[n]? = some ys)
  | .enum a, ρ, M, Q => wpE G a ρ M fun x M1 => Q (.enum x) M1 ∧ ∃ xs, seqOf M1 x = some xs
  | .cons a _, ρ, M, Q => wpE G a ρ M fun x M1 => Q (.val x) M1 ∧ ∃ xs, seqOf M1 x = some xs
  | _, _, _, _ => False
end

def lenG : IG → Nat
  | .cons _ r => lenG r + 1
  | _ => 0
def setIxD (o i v : D) (M : Mem) (Q : Mem → Prop) : Prop := match o, i with
  | .lst n, .int k => onV M[n]? fun xs => onV (ixN xs.length k) fun j => Q (M.set n (xs.set j v))
  | .dct n, .tup [.int a, .int b] => ∃ ls : Tab, M[n]? = some (dcD ls) ∧ ls.length < sizeLine ∧ Q (M.set n (dcD (putP ls (a, b) v)))
  | _, _ => False
mutual
def wpG (G : Gam) : IG → D → En → Mem → (En → Mem → Prop) → Prop
  | .v i, d, ρ, M, Q => Q (setV ρ i d) M
  | .t xs, d, ρ, M, Q => ∃ ds, (d = .tup ds ∨ ∃ n, d = .lst n ∧ M[n]? = some ds) ∧ ds.length = lenG xs ∧ wpGs G xs ds ρ M Q
  | .sub o i, d, ρ, M, Q => wpE G o ρ M fun x M1 => wpE G i ρ M1 fun y M2 => setIxD x y d M2 fun M3 => Q ρ M3
  | _, _, _, _, _ => False
def wpGs (G : Gam) : IG → List D → En → Mem → (En → Mem → Prop) → Prop
  | .nil, [], ρ, M, Q => Q ρ M
  | .cons a r, d :: ds, ρ, M, Q => wpG G a d ρ M fun ρ1 M1 => wpGs G r ds ρ1 M1 Q
  | _, _, _, _, _ => False
end
abbrev XW := En → String → List D → Mem → Prop
mutual
/-- expressions with calls that may refuse -/
def wpX (G : Gam) (X : XW) : IE → En → Mem → Kn → Prop
  | .xcl f xs, ρ, M, Q => wpXA G X xs ρ M fun ds M1 => G f ds M1 (spl Q (X ρ))
  | .bin op a b, ρ, M, Q => wpX G X a ρ M fun x M1 => wpX G X b ρ M1 fun y M2 => binD op x y M2 Q
  | .not a, ρ, M, Q => wpX G X a ρ M fun x M1 => ∃ c, x = .bl c ∧ Q (.bl (!c)) M1
  | .cmp op a b, ρ, M, Q => wpX G X a ρ M fun x M1 => wpX G X b ρ M1 fun y M2 => cmpD op x y M2 Q
  | .ite t a b, ρ, M, Q => wpXT G X t ρ M fun c M1 => if c = true then wpX G X a ρ M1 Q else wpX G X b ρ M1 Q
  | .tup xs, ρ, M, Q => wpXA G X xs ρ M fun ds M1 => ds.length ≤ sizeLine ∧ Q (.tup ds) M1
  | .blt f xs, ρ, M, Q => wpXA G X xs ρ M fun ds M1 => bfD f ds M1 Q
  | .call f xs, ρ, M, Q => wpXA G X xs ρ M fun ds M1 => G f ds M1 Q
  | e, ρ, M, Q => wpE G e ρ M Q
def wpXT (G : Gam) (X : XW) : IE → En → Mem → (Bool → Mem → Prop) → Prop
  | .cmp op a b, ρ, M, Q => wpX G X a ρ M fun x M1 => wpX G X b ρ M1 fun y M2 => cmpD op x y M2 fun d M3 => ∃ c, d = .bl c ∧ Q c M3
  | .not a, ρ, M, Q => wpXT G X a ρ M fun c M1 => Q (!c) M1
  | e, ρ, M, Q => wpT G e ρ M Q
def wpXA (G : Gam) (X : XW) : IE → En → Mem → (List D → Mem → Prop) → Prop
  | .nil, _, M, Q => Q [] M
  | .cons a r, ρ, M, Q => wpX G X a ρ M fun x M1 => wpXA G X r ρ M1 fun xs M2 => Q (x :: xs) M2
  | _, _, _, _ => False
end
def setI (i : Option Nat) (ρ : En) (d : D) : En := match i with
  | some i => setV ρ i d
  | none => ρ
def wipeI (i : Option Nat) (ρ : En) : En := match i with
  | some i => wipeV ρ i
  | none => ρ
def wpS (G : Gam) : IS → DE → En → Mem → Prop
  | .skip, E, ρ, M => E.nx ρ M
  | .seq s r, E, ρ, M => wpS G s { E with nx := fun ρ1 M1 => wpS G r E ρ1 M1 } ρ M
  | .asg g e, E, ρ, M => wpE G e ρ M fun d M1 => wpG G g d ρ M1 E.nx
  | .par is xs, E, ρ, M => wpA G xs ρ M fun ds M1 => (match setsV ρ is ds with | some ρ' => E.nx ρ' M1 | none => False)
  | .aug i op e, E, ρ, M => onV (getV ρ i) fun x => wpE G e ρ M fun y M1 => ∃ a b, x = .int a ∧ y = .int b ∧ binD op x y M1 fun z M2 => E.nx (setV ρ i z) M2
  | .ex e, E, ρ, M => wpE G e ρ M fun _ M1 => E.nx ρ M1
  | .rse, _, _, _ => False
  | .ret e, E, ρ, M => wpE G e ρ M E.rt
  | .retn, E, _, M => E.rt .non M
  | .pass, E, ρ, M => E.nx ρ M
  | .brk, E, ρ, M => E.bk ρ M
  | .cnt, E, ρ, M => E.ct ρ M
  | .ite t a b, E, ρ, M => wpT G t ρ M fun c M1 => if c = true then wpS G a E ρ M1 else wpS G b E ρ M1
  | .whl t b, E, ρ, M => ∃ W : Nat → En → Mem → Prop, (∃ m, W m ρ M) ∧ ∀ m ρ M, W m ρ M → wpT G t ρ M fun c M1 =>
      if c = true then wpS G b { nx := fun ρ' M' => ∃ m', m' < m ∧ W m' ρ' M', rt := E.rt, bk := E.nx, ct := fun ρ' M' => ∃ m', m' < m ∧ W m' ρ' M', xx := E.xx } ρ M1 else E.nx ρ M1
  | .for_ g it b, E, ρ, M => wpI G it ρ M fun src M1 => ∃ xs, items M1 src = some xs ∧ ∃ Pv : Nat → En → Mem → Prop, Pv 0 ρ M1 ∧
      (∀ i ρ M, i ≤ xs.length → Pv i ρ M → items M src = some xs) ∧
      (∀ i x ρ M, xs[i]? = some x → Pv i ρ M → wpG G g x ρ M fun ρ' M' => wpS G b { nx := Pv (i + 1), rt := E.rt, bk := E.nx, ct := Pv (i + 1), xx := E.xx } ρ' M') ∧
      ∀ ρ M, Pv xs.length ρ M → E.nx ρ M
  | .rsx c xs, E, ρ, M => wpA G xs ρ M fun ds M1 => ds.length = (xFlds c).length ∧ E.xx ρ c ds M1
  | .asx g e, E, ρ, M => wpX G E.xx e ρ M fun d M1 => wpG G g d ρ M1 E.nx
  | .exx e, E, ρ, M => wpX G E.xx e ρ M fun _ M1 => E.nx ρ M1
  | .rtx e, E, ρ, M => wpX G E.xx e ρ M E.rt
  | .try_ b c i h, E, ρ, M => wpS G b { E with xx := fun ρ1 c1 fs M1 => if subX c1 c = true then wpS G h { nx := fun ρ2 M2 => E.nx (wipeI i ρ2) M2, rt := E.rt, bk := fun ρ2 M2 => E.bk (wipeI i ρ2) M2, ct := fun ρ2 M2 => E.ct (wipeI i ρ2) M2 } (setI i ρ1 (.exc c1 fs)) M1 else E.xx ρ1 c1 fs M1 } ρ M
end DL

set_option Elab.async false
set_option linter.all false
set_option maxRecDepth 100000
set_option maxHeartbeats 5000000
/-! sorting points: pairs of whole numbers of any sign -/
namespace DPt
open PySem PyProof.Rows
def rk (B x y : Int) : Int := x * (2 * B) + y
def In2 (B y : Int) : Prop := -B ≤ y ∧ y < B
theorem rk_lt {B x y x' y' : Int} (h : In2 B y) (h' : In2 B y') : rk B x y < rk B x' y' ↔ (x < x' ∨ (x = x' ∧ y < y')) := by
  unfold rk In2 at *
  have step : ∀ {m n : Int}, m < n → m * (2 * B) + 2 * B ≤ n * (2 * B) := by
    intro m n lt
    have k := Int.mul_le_mul_of_nonneg_right (show m + 1 ≤ n by omega) (show 0 ≤ 2 * B by omega)
    rw [Int.add_mul, Int.one_mul] at k
    exact k
  rcases Int.lt_trichotomy x x' with (c | c | c)
  · have := step c
    omega
  · subst c
    omega
  · have := step c
    omega
section
variable {prog : Program} {w : World} {A : Around} {s : Shared} {Q : Bool → Shared → Prop}
theorem lex2 {b : Bool} {p q p' q' : Int} {t u t' u' : Tok} (h : Q (decide (p < p' ∨ (p = p' ∧ q < q'))) s) :
    PySem.W.KatLex prog w A b false Q [(.int p t, .int p' t'), (.int q u, .int q' u')] 0 s := by
  apply PySem.W.kat_cons
  apply wpAny_eqBool_int
  by_cases c : p = p'
  · subst c
    rw [beq_self_eq_true]
    apply PySem.W.kat_yes
    apply PySem.W.kat_cons
    apply wpAny_eqBool_int
    by_cases c2 : q = q'
    · subst c2
      rw [beq_self_eq_true]
      apply PySem.W.kat_yes
      apply PySem.W.kat_nil
      simpa using h
    · rw [beq_eq_false_iff_ne.mpr c2]
      apply PySem.W.kat_no
      apply TS.oneLt_ints
      simpa using h
  · rw [beq_eq_false_iff_ne.mpr c]
    apply PySem.W.kat_no
    apply TS.oneLt_ints
    simpa [c] using h
end
/-- the value is a point: a tuple of two whole numbers -/
def Pt (g : Heap) (v : Value) (x y : Int) : Prop := ∃ (a : Addr) (o : Obj) (n : Nat) (t u : Tok), v = .ref a ∧ g.get? a = some o ∧ o.cls = .type "tuple" ∧ o.data = .seq #[.int x t, .int y u] n
def Pts (g : Heap) (B : Int) (vs : List Value) : Prop := ∀ v ∈ vs, ∃ x y, Pt g v x y ∧ In2 B y
theorem heads : ∀ {g : Heap} {B : Int} {vs : List Value}, Pts g B vs → ∃ fs, PySem.W.KatTups g vs fs ∧ fs.length = vs.length ∧ ∀ f ∈ fs, ∃ n t, f = Value.int n t
  | _, _, [], _ => ⟨[], .nil, rfl, fun _ h => by cases h⟩
  | g, B, v :: vs, hp => by
    obtain ⟨fs, k, l, al⟩ := heads (B := B) (vs := vs) fun u hu => hp u (List.mem_cons_of_mem _ hu)
    obtain ⟨x, y, ⟨a, o, n, t, u, rfl, ho, hc, hd⟩, _⟩ := hp v List.mem_cons_self
    refine ⟨.int x t :: fs, .cons ho hc hd rfl k, by simp [l], fun f hf => ?_⟩
    rcases List.mem_cons.mp hf with e | e
    · exact ⟨x, t, e⟩
    · exact al f e
section
variable {w : World} {prog : Program} {s : Shared} {A : Around} {E : Value → Shared → Prop}
open TS in
theorem kind2 {B : Int} {vs : List Value} (two : 2 ≤ vs.length) (hp : Pts s.heap B vs) (r : Value → Int) (hr : ∀ v ∈ vs, ∀ x y, Pt s.heap v x y → r v = rk B x y) (Q : SortKind → Shared → Prop)
    (k : ∀ κ, Cmp prog w A s κ (pairsOf vs) r → Q κ s) : wpAny (model prog w) A (keyKind' vs.toArray) Q E s := by
  obtain ⟨fs, tups, len, allI⟩ := heads hp
  refine PySem.W.kat_kind (T := Value.type "int") tups (by omega) ?_ rfl (k _ ?_)
  · intro f hf
    obtain ⟨n, t, rfl⟩ := allI f hf
    apply PySem.W.Looks.of_pure
    rfl
  · intro p q mp mq Q' E' hQ
    rw [pairsOf_toList] at mp mq
    obtain ⟨x, y, pt, iy⟩ := hp _ (mem_zip_self mp).2
    obtain ⟨x', y', pt', iy'⟩ := hp _ (mem_zip_self mq).2
    rw [hr _ (mem_zip_self mp).2 x y pt, hr _ (mem_zip_self mq).2 x' y' pt', decide_eq_decide.mpr (rk_lt iy iy')] at hQ
    obtain ⟨a, o, n, t, u, e1, ho, hc, hd⟩ := pt
    obtain ⟨a', o', n', t', u', e2, ho', hc', hd'⟩ := pt'
    rw [e1, e2]
    exact PySem.W.kat_lt ho hd ho' hd' (lex2 hQ)
theorem Pt.keep {g g' : Heap} {v : Value} {x y : Int} (h : Pt g v x y) (kp : ∀ c u, g.get? c = some u → u.cls = .type "tuple" → g'.get? c = some u) : Pt g' v x y := by
  obtain ⟨a, o, n, t, u, e, ho, hc, hd⟩ := h
  exact ⟨a, o, n, t, u, e, kp a o ho hc, hc, hd⟩
theorem Pt.same {g : Heap} {v : Value} {x y x' y' : Int} (h : Pt g v x y) (h' : Pt g v x' y') : x = x' ∧ y = y' := by
  obtain ⟨a, o, n, t, u, rfl, ho, hc, hd⟩ := h
  obtain ⟨a', o', n', t', u', e, ho', hc', hd'⟩ := h'
  cases e
  rw [ho] at ho'
  cases ho'
  rw [hd] at hd'
  cases hd'
  exact ⟨rfl, rfl⟩
open TS in
/-- list.sort of points -/
theorem sort2 {a : Addr} {vs : List Value} {n : Nat} {B : Int} {R : PySem.Fin → Shared → Prop} (at_ : s.heap.get? a = some (seqObj "list" vs.toArray n)) (few : vs.length < 64) (hp : Pts s.heap B vs)
    (r : Value → Int) (hr : ∀ v ∈ vs, ∀ x y, Pt s.heap v x y → r v = rk B x y)
    (k : ∀ out : Array Value, out.toList.Perm vs → out.toList.Pairwise (fun u v => r u ≤ r v) → R (.done (.ret .none)) { s with heap := sortedHeap s.heap a vs out }) : wpAny (model prog w) A (Builtin.«list.sort» ⟨[.ref a], []⟩) R E s := by
  have kp (c : Addr) (u : Obj) (e : s.heap.get? c = some u) (hc : u.cls = .type "tuple") : (midHeap s.heap a vs).get? c = some u := by
    refine midHeap_old (fun z => ?_) e
    rw [z, at_] at e
    cases e
    simp [seqObj] at hc
  refine SK.plain_sort (r := r) at_ few (fun two Q hQ => ?_) fun ps out p1 p2 p3 => ?_
  · refine kind2 (B := B) (s := { s with heap := midHeap s.heap a vs }) two (fun v hv => ?_) r (fun v hv x y pt => ?_) Q hQ
    · obtain ⟨x, y, pt, iy⟩ := hp v hv
      exact ⟨x, y, pt.keep kp, iy⟩
    · obtain ⟨x', y', pt', _⟩ := hp v hv
      obtain ⟨rfl, rfl⟩ := pt.same (pt'.keep kp)
      exact hr v hv x y pt'
  · obtain ⟨perm, ord⟩ := out_rank p1 p2 p3
    exact k out perm ord
end
end DPt

set_option Elab.async false
set_option linter.all false
set_option maxRecDepth 100000
set_option maxHeartbeats 5000000
namespace DPt
open PySem PyProof.Rows L2
theorem perm_map_ex {α β : Type} (f : α → β) {l m : List β} (h : l.Perm m) : ∀ {L : List α}, m = L.map f → ∃ L1 : List α, L1.Perm L ∧ l = L1.map f := by
  induction h with
  | nil =>
    intro L e
    cases L with
    | nil => exact ⟨[], .nil, rfl⟩
    | cons _ _ => cases e
  | cons x _ ih =>
    intro L e
    cases L with
    | nil => cases e
    | cons a L =>
      injection e with e1 e2
      obtain ⟨L1, p, rfl⟩ := ih e2
      exact ⟨a :: L1, p.cons a, by rw [List.map_cons, e1]⟩
  | swap x y l =>
    intro L e
    match L, e with
    | a :: b :: L, e =>
      injection e with e1 e2
      injection e2 with e2 e3
      exact ⟨b :: a :: L, .swap a b L, by rw [List.map_cons, List.map_cons, ← e1, ← e2, ← e3]⟩
  | trans _ _ ih1 ih2 =>
    intro L e
    obtain ⟨L2, p2, e2⟩ := ih2 e
    obtain ⟨L1, p1, e1⟩ := ih1 e2
    exact ⟨L1, p1.trans p2, e1⟩
open Classical in
/-- the rank of a value that is a point -/
noncomputable def rkV (g : Heap) (B : Int) (v : Value) : Int := if h : ∃ x y, Pt g v x y then rk B h.choose h.choose_spec.choose else 0
theorem rkV_of {g : Heap} {B : Int} {v : Value} {x y : Int} (h : Pt g v x y) : rkV g B v = rk B x y := by
  have e : ∃ x y, Pt g v x y := ⟨x, y, h⟩
  unfold rkV
  rw [dif_pos e]
  obtain ⟨e1, e2⟩ := e.choose_spec.choose_spec.same h
  exact congr (congrArg (rk B) e1) e2
theorem pt_of {P : Program} {w : World} {h : Heap} {x y : Int} {b : Addr} (t : IsT P w h [x, y] b) : Pt h (.ref b) x y := by
  obtain ⟨a, xs, e, ⟨o, ho, hc, n, hd⟩, is⟩ := L2.tupInts_of t
  cases e
  generalize hl : xs.toList = l at is
  cases is with
  | cons p t1 is =>
    cases is with
    | cons q t2 is =>
      cases is
      have : xs = #[.int x t1, .int y t2] := by rw [← Array.toArray_toList (xs := xs), hl]
      exact ⟨_, o, n, t1, t2, rfl, ho, hc, by rw [hd, this]⟩
def rkK (B : Int) : List Int → Int
  | [x, y] => rk B x y
  | _ => 0
section
variable {w : World} {P : Program} {s : Shared} {A : Around} {E : Value → Shared → Prop}
/-- sorted of a set of points -/
theorem sorted_pts {a : Addr} {L : List (Addr × List Int)} {es : Array (Int × Value)} {ep : Nat} {t : SetTable} {Q : Value → Shared → Prop} {B : Int} (R : SetTR P w s.heap a L es ep t) (calm : A.handled = none)
    (two : ∀ q ∈ L, ∃ x y, q.2 = [x, y] ∧ In2 B y)
    (k : ∀ s' p (out : Array Value) (c : Nat) (L' : List (Addr × List Int)), (∀ b o, s.heap.get? b = some o → s'.heap.get? b = some o) → s'.gens = s.gens → s'.os = s.os → s.heap.objs.size ≤ p →
      s'.heap.get? p = some (seqObj "list" out c) → out.toList = L'.map (fun q => Value.ref q.1) → L'.Perm L → L'.Pairwise (fun q r => rkK B q.2 ≤ rkK B r.2) → Q (.ref p) s') : wpAny (model P w) A (call (.builtin "sorted") [.ref a]) Q E s := by
  obtain ⟨so, hso, ex, hset⟩ := R.ob
  have len := R.size
  have few := R.few
  apply Calls.call_function_entry kind_sorted plain_sorted entry_sorted (args_sorted1 _)
  unfold Builtin.«sorted»
  apply wpAny_bind (m := checkCount "sorted" 1 1 _)
  apply wpAny_pure
  apply wpAny_bind
  refine collect_set (A := A.in1) calm ⟨so, hso, ex.1, hset⟩ R.fits (by unfold scanBound; omega) R.tab.ris R.led fun s1 vs keep1 grow g1 o1 perm => ?_
  have names : es.toList.map (·.2) = L.map fun q => Value.ref q.1 := by
    rw [R.rows]
    unfold rowsOf
    simp
  rw [names] at perm
  have vlen : vs.length < 64 := by rw [perm.length_eq, List.length_map]; exact few
  apply wpAny_bind
  refine wpAny_newList ?_ (by rw [sizeLine_eq]; omega)
  have laid : (s1.heap.push (seqObj "list" vs.toArray 0)).get? s1.heap.objs.size = some (seqObj "list" vs.toArray 0) := Heap.get?_push_size _ rfl
  have ptq (q : Addr × List Int) (hq : q ∈ L) : ∃ x y, q.2 = [x, y] ∧ In2 B y ∧ Pt (s1.heap.push (seqObj "list" vs.toArray 0)) (.ref q.1) x y := by
    obtain ⟨x, y, e, iy⟩ := two q hq
    have it := R.tup q hq
    rw [e] at it
    exact ⟨x, y, e, iy, (pt_of it).keep fun c u hu _ => Heap.get?_push_of_some _ (keep1 c u hu)⟩
  have pts : Pts (s1.heap.push (seqObj "list" vs.toArray 0)) B vs := fun v hv => by
    obtain ⟨q, hq, rfl⟩ := List.mem_map.mp (perm.mem_iff.mp hv)
    obtain ⟨x, y, _, iy, pt⟩ := ptq q hq
    exact ⟨x, y, pt, iy⟩
  apply wpAny_bind
  apply wpAny_holding
  refine wpAny_call_entry slot_list_sort ⟨_, laid, rfl⟩ entry_list_sort (sort2 (s := { s1 with heap := s1.heap.push (seqObj "list" vs.toArray 0) }) laid vlen pts (rkV (s1.heap.push (seqObj "list" vs.toArray 0)) B) (fun v _ x y pt => rkV_of pt) fun out pm ord => ⟨_, rfl, ?_⟩) (args_list_sort _)
  obtain ⟨c, hc⟩ := sortedHeap_at (vs := vs) (out := out) laid
  obtain ⟨L', pL, eL⟩ := perm_map_ex (fun q : Addr × List Int => Value.ref q.1) (pm.trans perm) rfl
  have rkq (q : Addr × List Int) (hq : q ∈ L) : rkV (s1.heap.push (seqObj "list" vs.toArray 0)) B (.ref q.1) = rkK B q.2 := by
    obtain ⟨x, y, e, _, pt⟩ := ptq q hq
    rw [rkV_of pt, e]
    rfl
  have sorted' : L'.Pairwise (fun q r => rkK B q.2 ≤ rkK B r.2) := by
    rw [eL] at ord
    refine List.Pairwise.imp_of_mem (fun {q r} hq hr le => ?_) (List.pairwise_map.mp ord)
    rw [← rkq q (pL.mem_iff.mp hq), ← rkq r (pL.mem_iff.mp hr)]
    exact le
  refine wpAny_pure ⟨_, rfl, k _ s1.heap.objs.size out c L' (fun b u e => ?_) g1 o1 grow hc eL pL sorted'⟩
  have e1 := keep1 b u e
  have lt1 := Heap.lt_size e1
  show Heap.get? (sortedHeap (s1.heap.push (seqObj "list" vs.toArray 0)) s1.heap.objs.size vs out) b = some u
  rw [sortedHeap_old (Nat.ne_of_lt lt1) (by rw [size_push']; exact Nat.lt_succ_of_lt lt1)]
  exact Heap.get?_push_of_some _ e1
end
end DPt

set_option Elab.async false
set_option linter.all false
set_option maxRecDepth 100000
set_option maxHeartbeats 5000000
namespace DPt
open PySem L2 PySem.Spec PyProof.Rows
section
variable {X : Cx}
/-- what sorted wishes of a set of points -/
def rSortedP (K : PySem.W.Frag) (P : Program) (w : World) : List V → Hp → VK → Prop := fun vs H Q => ∃ (a : Addr) (L : List (Addr × List Int)) (B : Int), vs = [V.ref a] ∧ H a = some (SetTO P w a L) ∧ (∀ q ∈ L, SqT K H q.1 (q.2.map V.int)) ∧ (∀ q ∈ L, ∃ x y, q.2 = [x, y] ∧ In2 B y) ∧
  ∀ (L' : List (Addr × List Int)) (p : Addr), L'.Perm L → (L'.map (·.2)).Nodup → L'.length < 64 → L'.Pairwise (fun q r => rkK B q.2 ≤ rkK B r.2) → H p = none → Q (.ref p) (upd H p (.lst (L'.map fun q => V.ref q.1)))
theorem cr_sortedP (calm : X.calm = true) : CallR X (.builtin "sorted") (rSortedP X.K X.prog X.w) := by
  rintro pins s σ H vs us Q I rel ⟨a, L, B, rfl, here, tups, two, wish⟩
  have base : SetT0 X.prog X.w s.heap a L := (I.hok a _ here).1
  obtain ⟨es, ep, t, R⟩ := base.full fun q hq => I.isT (tups q hq)
  rw [Vals.ref1 rel]
  refine sorted_pts R (I.ok.hd calm) two ?_
  intro s' p out c L' kp gs os big at_ outE perm ord
  have few : L'.length < 64 := perm.length_eq ▸ R.few
  have isNew : H p = none := I.hok.fresh big
  have vals : Vals (L'.map fun q => V.ref q.1) out.toList := outE ▸ vals_of_refs L'
  have room : (L'.map fun q => V.ref q.1).length ≤ sizeLine := by
    rw [sizeLine_eq, List.length_map]
    omega
  have J : Inv X pins σ (upd H p (.lst (L'.map fun q => V.ref q.1))) { s with heap := s'.heap, gens := s'.gens, drawn := s'.drawn, toks := s'.toks } := by
    refine I.call (ch := []) (Un.laid kp big isNew) (I.hok.laid kp big ⟨room, out.toList, c, vals, at_⟩) ?_ (fun _ z => nomatch z)
    rw [gs]
    exact I.bare
  have e : s' = { s with toks := s'.toks, heap := s'.heap, gens := s'.gens, drawn := s'.drawn } := by
    obtain ⟨h1, g1, d1, k1, o1⟩ := s'
    obtain ⟨h2, g2, d2, k2, o2⟩ := s
    cases os
    rfl
  rw [e]
  exact ⟨.ref p, _, J, rfl, wish L' p perm ((perm.map (·.2)).nodup_iff.mpr R.nd) few ord isNew⟩
end
end DPt

set_option Elab.async false
set_option linter.all false
set_option maxRecDepth 100000
set_option maxHeartbeats 5000000
/-! a set of a tuple of int tuples -/
namespace DPt
open PySem L2 PySem.Spec PyProof.Rows
abbrev newSet (w : World) : Obj := { cls := .type "set", dict := none, data := .set #[] 0 (.fresh 0 0 (!w.params.followText "set-order")) }
section
variable {w : World} {P : Program} {s : Shared} {A : Around} {E : Value → Shared → Prop}
theorem no_at {g : Heap} {b : Addr} (big : g.objs.size ≤ b) : g.get? b = none := by
  cases q : g.get? b with
  | none => rfl
  | some o => exact (Nat.not_le_of_gt (Heap.lt_size q) big).elim
theorem ref_at {items : Array Value} {ks : List (Addr × List Int)} (its : items.toList = ks.map fun k => Value.ref k.1) (i : Nat) (v : Value) (hv : items[i]? = some v) : ∃ k, ks[i]? = some k ∧ v = .ref k.1 := by
  have e : (ks.map fun k => Value.ref k.1)[i]? = some v := by rw [← its, Array.getElem?_toList, hv]
  rw [List.getElem?_map] at e
  cases hk : ks[i]? with
  | none => rw [hk] at e; cases e
  | some k => rw [hk] at e; exact ⟨k, rfl, (Option.some.inj e).symm⟩
theorem nodup_le {α : Type} [BEq α] [LawfulBEq α] : ∀ {R S : List α}, R.Nodup → (∀ x ∈ R, x ∈ S) → R.length ≤ S.length
  | [], S, _, _ => Nat.zero_le S.length
  | a :: R, S, nd, h => by
    have ha := h a (by simp)
    have := nodup_le (R := R) (S := S.erase a) (List.nodup_cons.mp nd).2 fun x hx => by
      have ne : x ≠ a := fun z => (List.nodup_cons.mp nd).1 (z ▸ hx)
      exact (List.mem_erase_of_ne ne).mpr (h x (by simp [hx]))
    have l := List.length_erase_of_mem ha
    have pos : 0 < S.length := List.length_pos_of_mem ha
    rw [List.length_cons]; omega
/-- the turns of update, few unlike ones -/
theorem upd_few {I : Addr} {fp wr : List Addr} {G : Array GenState → Array GenState → Prop} {n : Nat} {Pv : Nat → Value → Prop} {St : Nat → Shared → Prop} {R : Result → Shared → Prop} (W : WalksS P w A.in1 I fp wr G n Pv St) (S : Addr) (out : S ∉ fp)
    (ks : List (Addr × List Int)) (many : n = ks.length) (U : List (List Int)) (few : U.length ≤ 62) (inU : ∀ k ∈ ks, k.2 ∈ U) (val : ∀ i v, Pv i v → ∃ k, ks[i]? = some k ∧ v = .ref k.1) (g0 : Heap) (each : ∀ k ∈ ks, IsT P w g0 k.2 k.1)
    (no1 : g0.get? S = none) (no2 : ∀ b ∈ wr, g0.get? b = none) (room : A.in1.units < cLine) : ∀ (d i : Nat) (s : Shared), n - i = d → i ≤ n → St i s → (∀ b o, g0.get? b = some o → s.heap.get? b = some o) → (∃ L es ep t, SetTR P w s.heap S L es ep t ∧ Got ks i L) →
      (∀ s' L es ep t, Moved (S :: wr) G s s' → SetTR P w s'.heap S L es ep t → Got ks n L → (∀ b o, g0.get? b = some o → s'.heap.get? b = some o) → R (.ok (.ret .none)) s') → codeAny (model P w) A (.builtin "set.update.loop" ⟨[.ref S, .ref I], []⟩) R s := by
  have outw : S ∉ wr := fun z => out (W.sub _ z)
  have more : ∀ b ∈ wr, b ∈ S :: wr := fun b hb => by simp [hb]
  have kept : ∀ {s s' : Shared}, Moved wr G s s' → (∀ b o, g0.get? b = some o → s.heap.get? b = some o) → ∀ b o, g0.get? b = some o → s'.heap.get? b = some o := fun mv kp b o e => mv.heap b o (fun hb => by rw [no2 b hb] at e; cases e) (kp b o e)
  intro d
  induction d with
  | zero =>
    rintro i s eq le st kp ⟨L, es, ep, t, R0, g⟩ fin
    obtain rfl : i = n := by omega
    refine codeAny_builtin F.entry_set_update_loop ?_; rw [Around.under_plainId F.plain_set_update_loop _]
    show wpAny _ A.in1 (pyNext (.ref I) >>= _) _ _ s; refine wpAny_bind (W.done s _ _ st fun s' mv => ?_)
    show wpAny _ A.in1 (ret .none) _ _ s'; have kp' := kept mv kp
    have sub : ∀ k ∈ L, k ∈ ks := fun k hk => List.mem_of_mem_take (g.sub k hk)
    exact wpAny_pure (fin s' L es ep t (mv.mono more) (R0.keep (fun o e => mv.heap S o outw e) fun k hk => isT_keep (each k (sub k hk)) kp') g kp')
  | succ d ih =>
    rintro i s eq le st kp ⟨L, es, ep, t, R0, g⟩ fin
    have lt : i < n := by omega
    refine codeAny_builtin F.entry_set_update_loop ?_; rw [Around.under_plainId F.plain_set_update_loop _]
    show wpAny _ A.in1 (pyNext (.ref I) >>= _) _ _ s; refine wpAny_bind (W.item i s _ _ lt st fun v s' pv st' mv => ?_)
    obtain ⟨k, hk, rfl⟩ := val i v pv; have kp' := kept mv kp
    have sub : ∀ k ∈ L, k ∈ ks := fun k hk => List.mem_of_mem_take (g.sub k hk)
    have R1 : SetTR P w s'.heap S L es ep t := R0.keep (fun o e => mv.heap S o outw e) fun k hk => isT_keep (each k (sub k hk)) kp'
    have tk : IsT P w s'.heap k.2 k.1 := isT_keep (each k (List.mem_of_getElem? hk)) kp'
    have small : L.length ≤ 62 := by
      have := nodup_le (S := U) R0.nd fun x hx => by
        obtain ⟨y, hy, (rfl : y.2 = x)⟩ := List.mem_map.mp hx
        exact inU y (sub y hy)
      rw [List.length_map] at this; omega
    show wpAny _ A.in1 (holding [Value.ref k.1] (setAdd S (.ref k.1)) >>= _) _ _ s'; refine wpAny_bind (wpAny_holding ?_)
    unfold setAdd; refine wpAny_holding (wpAny_bind (wpAny_pyHash_tuple room tk ?_))
    refine add_at (s := { s' with toks := s'.toks + (k.2.length + 1) }) R1 tk room (by omega) fun b h' L' es' ep' t' sb R2 c1 c2 => ?_
    have g1 : Got ks (i + 1) L' := by
      by_cases c : k.2 ∈ L.map (·.2)
      · rw [c1 c]; exact g.same hk c
      · exact g.more hk (c2 c)
    have kp2 : ∀ b o, g0.get? b = some o → h'.get? b = some o := fun b o e => (sb.2 b (fun z => by rw [z, no1] at e; cases e)).trans (kp' b o e)
    refine wpAny_pure ⟨plainId_quiet F.plain_set_update_loop _, ih (i + 1) _ (by omega) lt (W.frame _ s' _ _ st' (Nat.le_add_right _ _) fun b hb o e => (by rw [sb.2 b (fun z : b = S => out (z ▸ hb))]; exact e)) kp2 ⟨L', es', ep', t', R2, g1⟩ fun s2 L2 es2 ep2 t2 mv2 R3 g2 kp3 => ?_⟩
    refine fin s2 L2 es2 ep2 t2 (Moved.trans W.gtrans ((mv.mono more).then_heap (Nat.le_add_right _ _) fun b o hb e => ?_) mv2) R3 g2 kp3
    rw [sb.2 b (fun z : b = S => hb (by rw [z]; simp))]; exact e
theorem set_of_tup {l : Addr} {items : Array Value} (ks : List (Addr × List Int)) {Q : Value → Shared → Prop} (calm : A.handled = none) (tp : s.heap.IsTuple l items)
    (its : items.toList = ks.map fun k => Value.ref k.1) (each : ∀ k ∈ ks, IsT P w s.heap k.2 k.1) (U : List (List Int)) (few : U.length ≤ 62) (inU : ∀ k ∈ ks, k.2 ∈ U) (room : A.units + 3 < cLine)
    (fin : ∀ (g : Heap) (tk : Nat) L es ep t, SetTR P w g s.heap.objs.size L es ep t → Got ks ks.length L → (∀ b o, s.heap.get? b = some o → g.get? b = some o) → Q (.ref s.heap.objs.size) { s with heap := g, toks := tk }) : wpAny (model P w) A (call (.type "set") [.ref l]) Q E s := by
  have many : items.size = ks.length := by
    rw [← Array.length_toList, its, List.length_map]
  obtain ⟨hc0, htl, hmro⟩ := F.called_set.mro
  have made_ := F.called_set.made
  have sub_ := F.called_set.sub
  refine wpAny_call (codeAny_of_tree ?_); show wpAny _ _ (callAny (.type "set") _) _ _ _
  refine wpAny_pure ⟨Code.quiet_builtin _ (by decide +kernel), codeAny_builtin F.entry_type_call ?_⟩; rw [Around.under_plain (weight_type_call_type "set" [.ref l] []) rfl]
  have notT := F.called_set.notType; have canC := F.called_set.canCreate; have callT := F.typeCall_set_1 (.ref l)
  repeat any_goals (first | assumption | wp_step)
  refine codeAny_mono (code_set_led1 (.ref l) (E := E) (Q₁ := fun obj t => obj = .ref s.heap.objs.size ∧ t = { s with heap := s.heap.push (newSet w) }) ⟨rfl, rfl⟩) fun r t hr => ?_
  cases r with
  | error e => exact hr
  | ok fl =>
    cases fl with
    | next => exact hr.elim
    | brk => exact hr.elim
    | cont => exact hr.elim
    | ret obj =>
      obtain ⟨rfl, rfl⟩ := hr
      have at_ : (s.heap.push (newSet w)).get? s.heap.objs.size = some (newSet w) := Heap.get?_push_size _ rfl
      have isSet : Shared.TypeIs { s with heap := s.heap.push (newSet w) } (.ref s.heap.objs.size) "set" := ⟨_, at_, rfl⟩
      have ini := F.called_set.init.lookup; have bnd := F.called_set.init.bind (.ref s.heap.objs.size)
      repeat any_goals (first | assumption | wp_step)
      refine codeAny_mono (codeAny_call_builtin (R := wants (fun r u => r = .none ∧ ∃ g tk L es ep t, u = { s with heap := g, toks := tk } ∧ SetTR P w g s.heap.objs.size L es ep t ∧ Got ks ks.length L ∧ ∀ b o, s.heap.get? b = some o → g.get? b = some o) E)
        F.called_set.init.plain F.entry_set_init (check_set_init_1 isSet ?_)) fun r u hu => ?_
      · obtain ⟨⟨cl, di, da, sl⟩, hol, hcl, nl, hdl⟩ := tp
        simp only at hcl hdl
        subst hcl; subst hdl
        have hol' : (s.heap.push (newSet w)).get? l = some { cls := .type "tuple", dict := di, data := .seq items nl, slots := sl } := Heap.get?_push_of_some _ hol
        have sub1 := F.sub_tuple_set; have sub2 := F.sub_tuple_frozenset
        have ne1 : (Value.type "tuple" == Value.type "dict") = false := by decide
        have tup1 : (s.heap.push (newSet w)).IsTuple l items := ⟨_, hol', rfl, nl, rfl⟩
        unfold Builtin.«set.__init__» noKeywords Builtin.Frozenset.updateFrom; generalize hPI : pyIter = PI
        wp_walk
        subst hPI
        refine wpAny_pyIter_tuple tup1 (wpAny_bind (wpAny_runValue ?_))
        have less : l < s.heap.objs.size := Heap.lt_size hol
        have calm3 : A.in1.in1.in1.handled = none := by simp [calm]
        have one_more : (s.heap.push (newSet w)).objs.size = s.heap.objs.size + 1 := Heap.size_push ..
        have ne2 : l ≠ (s.heap.push (newSet w)).objs.size := by rw [one_more]; exact Nat.ne_of_lt (Nat.lt_succ_of_lt less)
        have ne3 : s.heap.objs.size ∉ [(s.heap.push (newSet w)).objs.size, l] := by
          simp only [List.mem_cons, List.not_mem_nil, or_false, not_or]; exact ⟨by rw [one_more]; exact Nat.ne_of_lt (Nat.lt_succ_self _), Nat.ne_of_gt less⟩
        refine upd_few ((Walks.tuple calm3 _ l ne2 items).toS) s.heap.objs.size ne3 ks many U few inU (ref_at its) s.heap each (no_at (Nat.le_refl _)) (fun b hb => no_at (by rw [List.mem_singleton.mp hb, one_more]; exact Nat.le_succ _)) room (items.size - 0) 0 _ (by omega) (Nat.zero_le _)
          ⟨⟨_, Heap.get?_push_size _ rfl, rfl, rfl⟩, (tup1.push _)⟩ (fun b o e => Heap.get?_push_of_some _ (Heap.get?_push_of_some _ e)) ?_ ?_
        · have got : ((s.heap.push (newSet w)).push { cls := .type "tuple_iterator", data := .fields #[.ref l, .int 0 0] }).get? s.heap.objs.size = some (newSet w) := Heap.get?_push_of_some _ at_
          exact ⟨[], #[], 0, _, setTR_fresh got, Got.zero ks⟩
        · rintro ⟨g, g2, d2, tk, o2⟩ L es ep t mv R got kp
          cases (show g2 = s.gens from mv.gens); cases (show d2 = s.drawn from mv.drawn); cases (show o2 = s.os from mv.os)
          show wpAny _ _ _ _ _ _
          refine wpAny_pure ?_
          show wpAny _ _ (ret .none) _ _ _
          rw [many] at got
          exact wpAny_pure ⟨rfl, g, tk, L, es, ep, t, rfl, R, got, kp⟩
      · cases r with
        | error e => exact hu
        | ok fl2 =>
          cases fl2 with
          | next => exact hu.elim
          | brk => exact hu.elim
          | cont => exact hu.elim
          | ret z =>
            obtain ⟨rfl, g, tk, L, es, ep, t, rfl, R, got, kp⟩ := hu
            repeat any_goals (first | assumption | wp_step)
            exact fin _ _ _ _ _ _ R got kp
end
section
variable {X : Cx}
/-- what set wishes of a tuple of int tuples -/
def rSetOfTup (K : PySem.W.Frag) (P : Program) (w : World) : List V → Hp → VK → Prop := fun xs H Q => ∃ (l : Addr) (ks : List (Addr × List Int)), xs = [V.ref l] ∧ SqT K H l (ks.map fun k => V.ref k.1) ∧ (∀ k ∈ ks, SqT K H k.1 (k.2.map V.int)) ∧ (∃ U : List (List Int), U.length ≤ 62 ∧ ∀ k ∈ ks, k.2 ∈ U) ∧
  ∀ a L, H a = none → (∀ k ∈ L, k ∈ ks) → (∀ k ∈ ks, k.2 ∈ L.map (·.2)) → Q (.ref a) (upd H a (SetTO P w a L))
theorem cr_setOfTup (calm : X.calm = true) (units : X.A.units + 64 < cLine) : CallR X (.type "set") (rSetOfTup X.K X.prog X.w) := by
  rintro pins s σ H xs us Q I r ⟨l, ks, rfl, tp, each, ⟨U, few, inU⟩, q⟩
  rw [Vals.ref1 r]
  obtain ⟨its, rv, pl, hz⟩ := I.tuple tp
  have free : H s.heap.objs.size = none := I.hok.fresh (Nat.le_refl _)
  refine set_of_tup (P := X.prog) (w := X.w) ks (I.ok.hd calm) pl (by simpa using refs_of_vals rv) (fun k hk => I.isT (each k hk)) U few inU (by show X.A.units + 3 < cLine; omega) fun g tk L es ep t R got kp => ?_
  refine ⟨.ref s.heap.objs.size, upd H s.heap.objs.size (SetTO X.prog X.w s.heap.objs.size L), I.laid (t' := tk) kp (Nat.le_refl _) (setTO_new R.t0), rfl, q _ L free (fun k hk => List.mem_of_mem_take (got.sub k hk)) fun k hk => got.all k (by rw [List.take_length]; exact hk)⟩
end
end DPt

set_option Elab.async false
set_option linter.all false
set_option maxRecDepth 100000
set_option maxHeartbeats 5000000
/-! a set of a list of whole numbers -/
namespace DPt
open PySem L2 PySem.Spec PyProof.Rows
section
variable {w : World} {P : Program} {s : Shared} {A : Around} {E : Value → Shared → Prop}
theorem set_of_ints {l : Addr} {items : Array Value} (ks : List Int) {Q : Value → Shared → Prop} (calm : A.handled = none) (ls : s.heap.IsList l items) (its : IntsAre items.toList ks) (few : ks.length + 1 < scanBound)
    (fin : ∀ (g : Heap) (tk c : Nat), SetR w g s.heap.objs.size (fun j => decide (j ∈ ks)) c → c ≤ ks.length → (∀ b o, s.heap.get? b = some o → g.get? b = some o) → Q (.ref s.heap.objs.size) { s with heap := g, toks := tk }) : wpAny (model P w) A (call (.type "set") [.ref l]) Q E s := by
  have many : items.size = ks.length := by
    have := IntsAre.length its
    rwa [Array.length_toList] at this
  obtain ⟨hc0, htl, hmro⟩ := F.called_set.mro
  have made_ := F.called_set.made
  have sub_ := F.called_set.sub
  refine wpAny_call (codeAny_of_tree ?_); show wpAny _ _ (callAny (.type "set") _) _ _ _
  refine wpAny_pure ⟨Code.quiet_builtin _ (by decide +kernel), codeAny_builtin F.entry_type_call ?_⟩; rw [Around.under_plain (weight_type_call_type "set" [.ref l] []) rfl]
  have notT := F.called_set.notType; have canC := F.called_set.canCreate; have callT := F.typeCall_set_1 (.ref l)
  repeat any_goals (first | assumption | wp_step)
  refine codeAny_mono (code_set_led1 (.ref l) (E := E) (Q₁ := fun obj t => obj = .ref s.heap.objs.size ∧ t = { s with heap := s.heap.push (newSet w) }) ⟨rfl, rfl⟩) fun r t hr => ?_
  cases r with
  | error e => exact hr
  | ok fl =>
    cases fl with
    | next => exact hr.elim
    | brk => exact hr.elim
    | cont => exact hr.elim
    | ret obj =>
      obtain ⟨rfl, rfl⟩ := hr
      have at_ : (s.heap.push (newSet w)).get? s.heap.objs.size = some (newSet w) := Heap.get?_push_size _ rfl
      have isSet : Shared.TypeIs { s with heap := s.heap.push (newSet w) } (.ref s.heap.objs.size) "set" := ⟨_, at_, rfl⟩
      have ini := F.called_set.init.lookup; have bnd := F.called_set.init.bind (.ref s.heap.objs.size)
      repeat any_goals (first | assumption | wp_step)
      refine codeAny_mono (codeAny_call_builtin (R := wants (fun r u => r = .none ∧ ∃ g tk c, u = { s with heap := g, toks := tk } ∧ SetR w g s.heap.objs.size (fun j => decide (j ∈ ks)) c ∧ c ≤ ks.length ∧ ∀ b o, s.heap.get? b = some o → g.get? b = some o) E)
        F.called_set.init.plain F.entry_set_init (check_set_init_1 isSet ?_)) fun r u hu => ?_
      · obtain ⟨⟨cl, di, da, sl⟩, hol, hcl, nl, hdl⟩ := ls
        simp only at hcl hdl
        subst hcl; subst hdl
        have hol' : (s.heap.push (newSet w)).get? l = some { cls := .type "list", dict := di, data := .seq items nl, slots := sl } := Heap.get?_push_of_some _ hol
        have sub1 := PySem.F.sub_list_set; have sub2 := PySem.F.sub_list_frozenset
        have ne1 : (Value.type "list" == Value.type "dict") = false := by decide
        have lst1 : (s.heap.push (newSet w)).IsList l items := ⟨_, hol', rfl, nl, rfl⟩
        unfold Builtin.«set.__init__» noKeywords Builtin.Frozenset.updateFrom; generalize hPI : pyIter = PI
        wp_walk
        subst hPI
        refine wpAny_pyIter_list lst1 (wpAny_bind (wpAny_runValue ?_))
        have less : l < s.heap.objs.size := Heap.lt_size hol
        have calm3 : A.in1.in1.in1.handled = none := by simp [calm]
        have one_more : (s.heap.push (newSet w)).objs.size = s.heap.objs.size + 1 := Heap.size_push ..
        have ne2 : l ≠ (s.heap.push (newSet w)).objs.size := by rw [one_more]; exact Nat.ne_of_lt (Nat.lt_succ_of_lt less)
        have ne3 : s.heap.objs.size ∉ [(s.heap.push (newSet w)).objs.size, l] := by
          simp only [List.mem_cons, List.not_mem_nil, or_false, not_or]; exact ⟨by rw [one_more]; exact Nat.ne_of_lt (Nat.lt_succ_self _), Nat.ne_of_gt less⟩
        have vals : ∀ (i : Nat) (v : Value), items[i]? = some v → ∃ k t, ks[i]? = some k ∧ v = .int k t := fun i v hv => by
          have hi : i < ks.length := by rw [← many]; exact (Array.getElem?_eq_some_iff.mp hv).1
          obtain ⟨t, e⟩ := IntsAre.int_at its i v (by rw [Array.getElem?_toList]; exact hv)
          exact ⟨ks[i], t, List.getElem?_eq_getElem hi, by rw [e, List.getD_eq_getElem?_getD, List.getElem?_eq_getElem hi]; rfl⟩
        refine set_update_ints ((Walks.list calm3 _ l ne2 items).toS) s.heap.objs.size ne3 ks many few vals (items.size - 0) 0 _ (by omega) (Nat.zero_le _)
          ⟨⟨_, Heap.get?_push_size _ rfl, rfl, rfl⟩, (lst1.push _)⟩ ?_ ?_
        · have got : ((s.heap.push (newSet w)).push { cls := .type "list_iterator", data := .fields #[.ref l, .int 0 0] }).get? s.heap.objs.size = some (newSet w) := Heap.get?_push_of_some _ at_
          exact ⟨0, Nat.le_refl 0, setR_new_at got⟩
        · rintro ⟨g, g2, d2, tk, o2⟩ c mv hc R
          cases (show g2 = s.gens from mv.gens); cases (show d2 = s.drawn from mv.drawn); cases (show o2 = s.os from mv.os)
          show wpAny _ _ _ _ _ _
          refine wpAny_pure ?_
          show wpAny _ _ (ret .none) _ _ _
          rw [many] at hc
          refine wpAny_pure ⟨rfl, g, tk, c, rfl, R, hc, fun b o e => ?_⟩
          have b0 : b < s.heap.objs.size := Heap.lt_size e
          exact mv.heap b o (by simp only [List.mem_cons, List.not_mem_nil, or_false, not_or]; exact ⟨Nat.ne_of_lt b0, by rw [one_more]; exact Nat.ne_of_lt (Nat.lt_succ_of_lt b0)⟩) (Heap.get?_push_of_some _ (Heap.get?_push_of_some _ e))
      · cases r with
        | error e => exact hu
        | ok fl2 =>
          cases fl2 with
          | next => exact hu.elim
          | brk => exact hu.elim
          | cont => exact hu.elim
          | ret z =>
            obtain ⟨rfl, g, tk, c, rfl, R, hc, kp⟩ := hu
            repeat any_goals (first | assumption | wp_step)
            exact fin _ _ _ R hc kp
end
section
variable {X : Cx}
/-- what set wishes of a list of whole numbers -/
def rSetOfInts (K : PySem.W.Frag) (w : World) : List V → Hp → VK → Prop := fun xs H Q => ∃ (l : Addr) (ks : List Int), xs = [V.ref l] ∧ SqL K H l (ks.map V.int) ∧ ks.length < 64 ∧
  ∀ a c, H a = none → c ≤ ks.length → Q (.ref a) (upd H a (SetO w a (fun j => decide (j ∈ ks)) c))
theorem cr_setOfInts (calm : X.calm = true) : CallR X (.type "set") (rSetOfInts X.K X.w) := by
  rintro pins s σ H xs us Q I r ⟨l, ks, rfl, ls, few, q⟩
  rw [Vals.ref1 r]
  obtain ⟨its, rv, pl, hz⟩ := I.list ls
  have free : H s.heap.objs.size = none := I.hok.fresh (Nat.le_refl _)
  refine set_of_ints (P := X.prog) (w := X.w) ks (I.ok.hd calm) pl.isList (by simpa using rv.ints) (by unfold scanBound; omega) fun g tk c R hc kp => ?_
  exact ⟨.ref s.heap.objs.size, upd H s.heap.objs.size (SetO X.w s.heap.objs.size (fun j => decide (j ∈ ks)) c), I.laid (t' := tk) kp (Nat.le_refl _) (setO_new R), rfl, q _ c free hc⟩
end
end DPt

set_option Elab.async false
set_option linter.all false
set_option maxRecDepth 100000
set_option maxHeartbeats 5000000
/-! zip over two things of any make; list(zip(..)) -/
namespace DZ
open PySem L2 PySem.Spec PyProof.Rows
section
variable {P : Program} {w : World}
/-- it goes over the things xs that lie at l -/
structure Iv (P : Program) (w : World) (it l : Addr) (xs : Array Value) (S : Heap → Nat → Prop) : Prop where
  ne : it ≠ l
  stay : ∀ {g g' : Heap} {i : Nat}, S g i → (∀ q u, q = it ∨ q = l → g.get? q = some u → g'.get? q = some u) → S g' i
  obj : ∀ {g : Heap} {i : Nat}, S g i → ∃ o, g.get? it = some o ∧ ∀ v, o.data ≠ .cell v
  give : ∀ {A : Around} {E : Value → Shared → Prop} {s : Shared} {i : Nat} {x : Value} {Q : Value → Shared → Prop}, S s.heap i → xs[i]? = some x → (∀ g, S g (i + 1) → Heap.SameBut it s.heap g → Q x { s with heap := g }) → wpAny (model P w) A (Builtin.SmallTypes.nextOf (.ref it)) Q E s
  over : ∀ {A : Around} {E : Value → Shared → Prop} {s : Shared} {i : Nat} {Q : Value → Shared → Prop}, A.handled = none → S s.heap i → xs[i]? = none → (∀ g e, Heap.ExtBut it s.heap g → (∃ u, g.get? e = some u ∧ u.cls = .type "StopIteration") → E (.ref e) { s with heap := g }) → wpAny (model P w) A (Builtin.SmallTypes.nextOf (.ref it)) Q E s
variable {it l : Addr} {xs : Array Value} {S : Heap → Nat → Prop}
theorem Iv.but (V : Iv P w it l xs S) {b : Addr} {g g' : Heap} {i : Nat} (h : S g i) (e : Heap.ExtBut b g g') (h1 : it ≠ b) (h2 : l ≠ b) : S g' i :=
  V.stay h fun q u hq eq => by
    rcases hq with rfl | rfl
    · exact e _ _ h1 eq
    · exact e _ _ h2 eq
def stT (it l : Addr) (xs : Array Value) (g : Heap) (i : Nat) : Prop := g.IsTupleIter it l i ∧ g.IsTuple l xs
def stL (it l : Addr) (xs : Array Value) (g : Heap) (i : Nat) : Prop := g.IsListIter it l i ∧ g.IsList l xs
theorem ivT (ne : it ≠ l) : Iv P w it l xs (stT it l xs) where
  ne := ne
  stay := fun {g g' i} h k => by
    obtain ⟨⟨o, a1, a2⟩, u, b1, b2⟩ := h
    exact ⟨⟨o, k _ _ (.inl rfl) a1, a2⟩, u, k _ _ (.inr rfl) b1, b2⟩
  obj := fun {g i} h => by
    obtain ⟨⟨o, a1, _, a3⟩, _⟩ := h
    exact ⟨o, a1, fun v z => by rw [a3] at z; cases z⟩
  give := fun h hx fin => RZ.nextOf_tuple_item h.1 h.2 hx fun g h1 h2 => fin g ⟨h1, h.2.extBut h2.extBut (Ne.symm ne)⟩ h2
  over := fun hh h hx fin => RZ.nextOf_tuple_end hh h.1 h.2 hx fin
theorem ivL (ne : it ≠ l) : Iv P w it l xs (stL it l xs) where
  ne := ne
  stay := fun {g g' i} h k => by
    obtain ⟨⟨o, a1, a2⟩, u, b1, b2⟩ := h
    exact ⟨⟨o, k _ _ (.inl rfl) a1, a2⟩, u, k _ _ (.inr rfl) b1, b2⟩
  obj := fun {g i} h => by
    obtain ⟨⟨o, a1, _, a3⟩, _⟩ := h
    exact ⟨o, a1, fun v z => by rw [a3] at z; cases z⟩
  give := fun h hx fin => wpAny_nextOf_list_item h.1 h.2 hx fun g h1 h2 => fin g ⟨h1, h.2.extBut h2.extBut (Ne.symm ne)⟩ h2
  over := fun hh h hx fin => wpAny_nextOf_list_end hh h.1 h.2 hx fin
end
section
variable {P : Program} {w : World} {A : Around} {E : Value → Shared → Prop} {s : Shared}
variable {z TI TO i1 i2 l1 l2 : Addr} {k1 k2 : Nat} {xs ys : Array Value} {S1 S2 : Heap → Nat → Prop}
/-- the first pair, or one behind a pair that was let go -/
theorem zv_give {x y a b : Value} {Q : Value → Shared → Prop} (V1 : Iv P w i1 l1 xs S1) (V2 : Iv P w i2 l2 ys S2) (D : ZipApart z TI TO i1 i2 l1 l2) (hz : IsZip s.heap z TI TO .none) (ti : IsPair s.heap TI (.ref i1) (.ref i2)) (to : IsPair s.heap TO a b)
    (a1 : S1 s.heap k1) (a2 : S2 s.heap k2) (hx : xs[k1]? = some x) (hy : ys[k2]? = some y)
    (fin : ∀ g, IsZip g z TI TO (rawInt s.heap.objs.size) → IsPair g TO x y → S1 g (k1 + 1) → S2 g (k2 + 1) → IsPair g s.heap.objs.size x y → g.objs.size = s.heap.objs.size + 1 →
      (∀ q u, q ≠ z → q ≠ TO → q ≠ i1 → q ≠ i2 → s.heap.get? q = some u → g.get? q = some u) → Q (.ref s.heap.objs.size) { s with heap := g }) :
    wpAny (model P w) A (Builtin.«zip.__next__» ⟨[.ref z], []⟩) (fun f t => ∃ v, f = .done (.ret v) ∧ Q v t) E s := by
  show wpAny _ _ (field (.ref z) 2 >>= _) _ _ _; refine wpAny_bind (wpAny_field hz rfl (x := .bool false) rfl ?_)
  show wpAny _ _ (field (.ref z) 3 >>= _) _ _ _; refine wpAny_bind (wpAny_field hz rfl (x := .ref TI) rfl ?_); refine wpAny_bind (wpAny_seqItems ti rfl ?_)
  show wpAny _ _ (Builtin.SmallTypes.ownedTupleIsFree (.ref z) >>= _) _ _ _; refine wpAny_bind ?_
  unfold Builtin.SmallTypes.ownedTupleIsFree
  refine wpAny_bind (wpAny_field hz rfl (x := .none) rfl (wpAny_pure ?_)); simp only [if_true]
  refine wpAny_bind (wpAny_rule ?_); refine wpAny_bind (wpAny_field hz rfl (x := .ref TO) rfl ?_)
  refine wpAny_bind (wpAny_setField_rec hz (by simp) fun g1 z1 b1 => ?_); replace z1 : IsZip g1 z TI TO .ellipsis := z1
  refine wpAny_bind ?_; simp only [List.zipIdx_cons, List.zipIdx_nil, List.forIn_cons, List.forIn_nil]
  refine wpAny_bind (wpAny_bind (wpAny_onRaise ?_)); show wpAny _ _ (Builtin.SmallTypes.nextOf (.ref i1) >>= _) _ _ _
  refine wpAny_bind (V1.give (V1.but a1 b1.extBut D.i1z D.l1z) hx fun g2 c2 b2 => wpAny_pure ?_)
  have t2 : IsPair g2 TO a b := b2.extBut _ _ D.TOi1 (b1.extBut _ _ D.TOz to)
  refine wpAny_bind (wpAny_seqItems t2 rfl ?_); refine wpAny_bind (wpAny_updateSeq_pair t2 fun g3 t3 b3 => ?_)
  replace t3 : IsPair g3 TO x b := t3; refine wpAny_bind (wpAny_letGo (wpAny_pure ?_))
  refine wpAny_bind (wpAny_bind (wpAny_onRaise ?_)); show wpAny _ _ (Builtin.SmallTypes.nextOf (.ref i2) >>= _) _ _ _
  refine wpAny_bind (V2.give (V2.but (V2.but (V2.but a2 b1.extBut D.i2z D.l2z) b2.extBut D.i12.symm D.l2i1) b3.extBut D.TOi2.symm D.l2TO) hy fun g4 c4 b4 => wpAny_pure ?_)
  have t4 : IsPair g4 TO x b := b4.extBut _ _ D.TOi2 t3
  refine wpAny_bind (wpAny_seqItems t4 rfl ?_); refine wpAny_bind (wpAny_updateSeq_pair t4 fun g5 t5 b5 => ?_)
  replace t5 : IsPair g5 TO x y := t5; refine wpAny_bind (wpAny_letGo (wpAny_pure (wpAny_pure ?_)))
  refine wpAny_bind (wpAny_seqItems t5 rfl ?_); refine wpAny_bind (wpAny_newTuple ?_)
  have sz : g5.objs.size = s.heap.objs.size := by rw [b5.1, b4.1, b3.1, b2.1, b1.1]
  have z5 : IsZip g5 z TI TO .ellipsis := b5.extBut _ _ D.TOz.symm (b4.extBut _ _ D.i2z.symm (b3.extBut _ _ D.TOz.symm (b2.extBut _ _ D.i1z.symm z1)))
  have m5 : ∀ q u, q ≠ z → q ≠ TO → q ≠ i1 → q ≠ i2 → s.heap.get? q = some u → g5.get? q = some u := fun q u q1 q2 q3 q4 e => b5.extBut _ _ q2 (b4.extBut _ _ q4 (b3.extBut _ _ q2 (b2.extBut _ _ q3 (b1.extBut _ _ q1 e))))
  have s1 : S1 g5 (k1 + 1) := V1.but (V1.but (V1.but c2 b3.extBut D.TOi1.symm D.l1TO) b4.extBut D.i12 D.l1i2) b5.extBut D.TOi1.symm D.l1TO
  have s2 : S2 g5 (k2 + 1) := V2.but c4 b5.extBut D.TOi2.symm D.l2TO
  have zl : z < g5.objs.size := Heap.lt_size z5
  show wpAny _ _ (Builtin.SmallTypes.ownedTupleHandOut (.ref z) (.ref g5.objs.size) >>= _) _ _ _; refine wpAny_bind ?_
  unfold Builtin.SmallTypes.ownedTupleHandOut
  have z6 : IsZip (g5.push { cls := .type "tuple", data := .seq #[x, y] }) z TI TO .ellipsis := Heap.get?_push_of_some _ z5
  refine wpAny_bind (wpAny_setField_rec z6 (by simp) fun g7 z7 b7 => ?_); replace z7 : IsZip g7 z TI TO (rawInt g5.objs.size) := z7
  refine wpAny_setField_rec z7 (by simp) fun g8 z8 b8 => ?_; replace z8 : IsZip g8 z TI TO (rawInt g5.objs.size) := z8
  have up : ∀ q u, q ≠ z → g5.get? q = some u → g8.get? q = some u := fun q u q1 e => b8.extBut _ _ q1 (b7.extBut _ _ q1 (Heap.get?_push_of_some _ e))
  have t8 : IsPair g8 g5.objs.size x y := b8.extBut _ _ (Nat.ne_of_gt zl) (b7.extBut _ _ (Nat.ne_of_gt zl) (Heap.get?_push_size _ rfl))
  have n8 : g8.objs.size = g5.objs.size + 1 := by rw [b8.1, b7.1, Heap.size_push]
  rw [sz] at z8 t8 n8
  refine wpAny_pure ⟨_, rfl, ?_⟩
  show Q (.ref g5.objs.size) _
  rw [sz]
  refine fin g8 z8 (up _ _ D.TOz t5) (V1.stay s1 fun q u hq e => up q u ?_ e) (V2.stay s2 fun q u hq e => up q u ?_ e) t8 n8 fun q u q1 q2 q3 q4 e => up q u q1 (m5 q u q1 q2 q3 q4 e)
  · rcases hq with rfl | rfl
    · exact D.i1z
    · exact D.l1z
  · rcases hq with rfl | rfl
    · exact D.i2z
    · exact D.l2z
theorem zv_over {a b : Value} {Q : Fin → Shared → Prop} (hh : A.handled = none) (V1 : Iv P w i1 l1 xs S1) (V2 : Iv P w i2 l2 ys S2) (D : ZipApart z TI TO i1 i2 l1 l2) (hz : IsZip s.heap z TI TO .none) (ti : IsPair s.heap TI (.ref i1) (.ref i2)) (to : IsPair s.heap TO a b)
    (a1 : S1 s.heap k1) (a2 : S2 s.heap k2) (hend : xs[k1]? = none ∨ ys[k2]? = none)
    (fin : ∀ g e, (∀ q u, q ≠ z → q ≠ TO → q ≠ i1 → q ≠ i2 → s.heap.get? q = some u → g.get? q = some u) → (∃ u, g.get? e = some u ∧ u.cls = .type "StopIteration") → E (.ref e) { s with heap := g }) :
    wpAny (model P w) A (Builtin.«zip.__next__» ⟨[.ref z], []⟩) Q E s := by
  show wpAny _ _ (field (.ref z) 2 >>= _) _ _ _; refine wpAny_bind (wpAny_field hz rfl (x := .bool false) rfl ?_)
  show wpAny _ _ (field (.ref z) 3 >>= _) _ _ _; refine wpAny_bind (wpAny_field hz rfl (x := .ref TI) rfl ?_); refine wpAny_bind (wpAny_seqItems ti rfl ?_)
  show wpAny _ _ (Builtin.SmallTypes.ownedTupleIsFree (.ref z) >>= _) _ _ _; refine wpAny_bind ?_
  unfold Builtin.SmallTypes.ownedTupleIsFree
  refine wpAny_bind (wpAny_field hz rfl (x := .none) rfl (wpAny_pure ?_)); simp only [if_true]
  refine wpAny_bind (wpAny_rule ?_); refine wpAny_bind (wpAny_field hz rfl (x := .ref TO) rfl ?_)
  refine wpAny_bind (wpAny_setField_rec hz (by simp) fun g1 z1 b1 => ?_); replace z1 : IsZip g1 z TI TO .ellipsis := z1
  refine wpAny_bind ?_; simp only [List.zipIdx_cons, List.zipIdx_nil, List.forIn_cons, List.forIn_nil]
  refine wpAny_bind (wpAny_bind (wpAny_onRaise ?_)); show wpAny _ _ (Builtin.SmallTypes.nextOf (.ref i1) >>= _) _ _ _
  cases hx : xs[k1]? with
  | none =>
    refine wpAny_bind (V1.over (s := { s with heap := g1 }) hh (V1.but a1 b1.extBut D.i1z D.l1z) hx fun g2 e k2 he => ?_)
    have z2 : IsZip g2 z TI TO .ellipsis := k2 _ _ D.i1z.symm z1
    obtain ⟨oe, e1, e2⟩ := he
    have ez : e ≠ z := fun q => by subst q; rw [z2] at e1; cases e1; simp at e2
    refine wpAny_setField_rec z2 (by simp) fun g3 _ b3 => ?_
    exact fin g3 e (fun q u q1 _ q3 _ e => b3.extBut _ _ q1 (k2 _ _ q3 (b1.extBut _ _ q1 e))) ⟨oe, b3.extBut _ _ ez e1, e2⟩
  | some x =>
    have hy : ys[k2]? = none := by rcases hend with h | h; rw [hx] at h; cases h; exact h
    refine wpAny_bind (V1.give (s := { s with heap := g1 }) (V1.but a1 b1.extBut D.i1z D.l1z) hx fun g2 c2 b2 => wpAny_pure ?_)
    have t2 : IsPair g2 TO a b := b2.extBut _ _ D.TOi1 (b1.extBut _ _ D.TOz to)
    refine wpAny_bind (wpAny_seqItems t2 rfl ?_); refine wpAny_bind (wpAny_updateSeq_pair t2 fun g3 t3 b3 => ?_)
    refine wpAny_bind (wpAny_letGo (wpAny_pure ?_))
    refine wpAny_bind (wpAny_bind (wpAny_onRaise ?_)); show wpAny _ _ (Builtin.SmallTypes.nextOf (.ref i2) >>= _) _ _ _
    refine wpAny_bind (V2.over (s := { s with heap := g3 }) hh (V2.but (V2.but (V2.but a2 b1.extBut D.i2z D.l2z) b2.extBut D.i12.symm D.l2i1) b3.extBut D.TOi2.symm D.l2TO) hy fun g4 e k4 he => ?_)
    obtain ⟨oe, e1, e2⟩ := he
    have z4 : IsZip g4 z TI TO .ellipsis := k4 _ _ D.i2z.symm (b3.extBut _ _ D.TOz.symm (b2.extBut _ _ D.i1z.symm z1))
    have ez : e ≠ z := fun q => by subst q; rw [z4] at e1; cases e1; simp at e2
    refine wpAny_setField_rec z4 (by simp) fun g5 _ b5 => ?_
    exact fin g5 e (fun q u q1 q2 q3 q4 e => b5.extBut _ _ q1 (k4 _ _ q4 (b3.extBut _ _ q2 (b2.extBut _ _ q3 (b1.extBut _ _ q1 e))))) ⟨oe, b5.extBut _ _ ez e1, e2⟩
/-- a pair while the first one is still held -/
theorem zh_give {x y : Value} {T : Addr} {f : Bool} {oT : Obj} {Q : Value → Shared → Prop} (V1 : Iv P w i1 l1 xs S1) (V2 : Iv P w i2 l2 ys S2) (D : ZipApart z TI TO i1 i2 l1 l2) (hz : IsZipHeld s.heap z TI TO T f) (ht : s.heap.get? T = some oT) (ti : IsPair s.heap TI (.ref i1) (.ref i2))
    (a1 : S1 s.heap k1) (a2 : S2 s.heap k2) (hx : xs[k1]? = some x) (hy : ys[k2]? = some y)
    (fin : ∀ g, IsZipHeld g z TI TO T true → S1 g (k1 + 1) → S2 g (k2 + 1) → IsPair g s.heap.objs.size x y → g.objs.size = s.heap.objs.size + 1 →
      (∀ q u, q ≠ z → q ≠ i1 → q ≠ i2 → s.heap.get? q = some u → g.get? q = some u) → Q (.ref s.heap.objs.size) { s with heap := g }) :
    wpAny (model P w) A (Builtin.«zip.__next__» ⟨[.ref z], []⟩) (fun f t => ∃ v, f = .done (.ret v) ∧ Q v t) E s := by
  show wpAny _ _ (field (.ref z) 2 >>= _) _ _ _; refine wpAny_bind (wpAny_field hz rfl (x := .bool false) rfl ?_)
  show wpAny _ _ (field (.ref z) 3 >>= _) _ _ _; refine wpAny_bind (wpAny_field hz rfl (x := .ref TI) rfl ?_); refine wpAny_bind (wpAny_seqItems ti rfl ?_)
  show wpAny _ _ (Builtin.SmallTypes.ownedTupleIsFree (.ref z) >>= _) _ _ _; refine wpAny_bind (wpAny_tupleHeld_zip hz ht fun g1 z1 b1 => ?_)
  simp only [Bool.false_eq_true, if_false]; refine wpAny_bind ?_
  rw [← Array.forIn_toList]; simp only [List.forIn_cons, List.forIn_nil]
  refine wpAny_bind (wpAny_bind (wpAny_holding ?_)); show wpAny _ _ (Builtin.SmallTypes.nextOf (.ref i1) >>= _) _ _ _
  refine wpAny_bind (V1.give (s := { s with heap := g1 }) (V1.but a1 b1.extBut D.i1z D.l1z) hx fun g2 c2 b2 => wpAny_pure ?_); refine wpAny_pure ?_
  refine wpAny_bind (wpAny_bind (wpAny_holding ?_)); show wpAny _ _ (Builtin.SmallTypes.nextOf (.ref i2) >>= _) _ _ _
  refine wpAny_bind (V2.give (s := { s with heap := g2 }) (V2.but (V2.but a2 b1.extBut D.i2z D.l2z) b2.extBut D.i12.symm D.l2i1) hy fun g3 c3 b3 => wpAny_pure ?_)
  refine wpAny_pure (wpAny_pure ?_); show wpAny _ _ (newTuple [x, y] >>= _) _ _ _; refine wpAny_bind (wpAny_newTuple ?_)
  have sz : g3.objs.size = s.heap.objs.size := by rw [b3.1, b2.1, b1.1]
  have z3 : IsZipHeld g3 z TI TO T true := b3.extBut _ _ D.i2z.symm (b2.extBut _ _ D.i1z.symm z1)
  have m3 : ∀ q u, q ≠ z → q ≠ i1 → q ≠ i2 → s.heap.get? q = some u → g3.get? q = some u := fun q u q1 q2 q3 e => b3.extBut _ _ q3 (b2.extBut _ _ q2 (b1.extBut _ _ q1 e))
  have s1 : S1 g3 (k1 + 1) := V1.but c2 b3.extBut D.i12 D.l1i2
  refine wpAny_pure ⟨_, rfl, ?_⟩
  show Q (.ref g3.objs.size) _
  have pr : IsPair (g3.push { cls := .type "tuple", data := .seq #[x, y] }) g3.objs.size x y := Heap.get?_push_size _ rfl
  have n4 : (g3.push { cls := .type "tuple", data := .seq #[x, y] }).objs.size = g3.objs.size + 1 := Heap.size_push ..
  rw [sz] at pr n4 ⊢
  exact fin _ (Heap.get?_push_of_some _ z3) (V1.stay s1 fun _ _ _ e => Heap.get?_push_of_some _ e) (V2.stay c3 fun _ _ _ e => Heap.get?_push_of_some _ e) pr n4 fun q u q1 q2 q3 e => Heap.get?_push_of_some _ (m3 q u q1 q2 q3 e)
theorem zh_over {T : Addr} {f : Bool} {oT : Obj} {Q : Fin → Shared → Prop} (hh : A.handled = none) (V1 : Iv P w i1 l1 xs S1) (V2 : Iv P w i2 l2 ys S2) (D : ZipApart z TI TO i1 i2 l1 l2) (hz : IsZipHeld s.heap z TI TO T f) (ht : s.heap.get? T = some oT) (ti : IsPair s.heap TI (.ref i1) (.ref i2))
    (a1 : S1 s.heap k1) (a2 : S2 s.heap k2) (hend : xs[k1]? = none ∨ ys[k2]? = none)
    (fin : ∀ g e, (∀ q u, q ≠ z → q ≠ i1 → q ≠ i2 → s.heap.get? q = some u → g.get? q = some u) → (∃ u, g.get? e = some u ∧ u.cls = .type "StopIteration") → E (.ref e) { s with heap := g }) :
    wpAny (model P w) A (Builtin.«zip.__next__» ⟨[.ref z], []⟩) Q E s := by
  show wpAny _ _ (field (.ref z) 2 >>= _) _ _ _; refine wpAny_bind (wpAny_field hz rfl (x := .bool false) rfl ?_)
  show wpAny _ _ (field (.ref z) 3 >>= _) _ _ _; refine wpAny_bind (wpAny_field hz rfl (x := .ref TI) rfl ?_); refine wpAny_bind (wpAny_seqItems ti rfl ?_)
  show wpAny _ _ (Builtin.SmallTypes.ownedTupleIsFree (.ref z) >>= _) _ _ _; refine wpAny_bind (wpAny_tupleHeld_zip hz ht fun g1 z1 b1 => ?_)
  simp only [Bool.false_eq_true, if_false]; refine wpAny_bind ?_
  rw [← Array.forIn_toList]; simp only [List.forIn_cons, List.forIn_nil]
  refine wpAny_bind (wpAny_bind (wpAny_holding ?_)); show wpAny _ _ (Builtin.SmallTypes.nextOf (.ref i1) >>= _) _ _ _
  cases hx : xs[k1]? with
  | none =>
    refine wpAny_bind (V1.over (s := { s with heap := g1 }) hh (V1.but a1 b1.extBut D.i1z D.l1z) hx fun g2 e k2 he => ?_)
    exact fin g2 e (fun q u q1 q2 _ e => k2 _ _ q2 (b1.extBut _ _ q1 e)) he
  | some x =>
    have hy : ys[k2]? = none := by rcases hend with h | h; rw [hx] at h; cases h; exact h
    refine wpAny_bind (V1.give (s := { s with heap := g1 }) (V1.but a1 b1.extBut D.i1z D.l1z) hx fun g2 c2 b2 => wpAny_pure ?_); refine wpAny_pure ?_
    refine wpAny_bind (wpAny_bind (wpAny_holding ?_)); show wpAny _ _ (Builtin.SmallTypes.nextOf (.ref i2) >>= _) _ _ _
    refine wpAny_bind (V2.over (s := { s with heap := g2 }) hh (V2.but (V2.but a2 b1.extBut D.i2z D.l2z) b2.extBut D.i12.symm D.l2i1) hy fun g3 e k3 he => ?_)
    exact fin g3 e (fun q u q1 q2 q3 e => k3 _ _ q3 (b2.extBut _ _ q2 (b1.extBut _ _ q1 e))) he
/-- the zip's next from outside -/
theorem zx_give {Q : Option Value → Shared → Prop} {o : Obj} (hz : s.heap.get? z = some o) (hc : o.cls = .type "zip") (h : wpAny (model P w) A.in1 (Builtin.«zip.__next__» ⟨[.ref z], []⟩) (fun f t => ∃ v, f = .done (.ret v) ∧ Q (some v) t) (fun e t => (∃ u, ∃ a, e = .ref a ∧ t.heap.get? a = some u ∧ u.cls = .type "StopIteration") ∧ Q none t) s) :
    wpAny (model P w) A (pyNext (.ref z)) Q E s := by
  have ty : s.TypeIs (.ref z) "zip" := ⟨_, hz, hc⟩
  unfold pyNext
  refine wpAny_bind (wpAny_attempt (wpAny_callSpecial?_slot (name := Str.ofString "__next__") ty F.slot_zip_next (wpAny_call_entry F.slot_zip_next ty F.entry_zip_next (wpAny_mono h (fun f t ⟨v, e, q⟩ => ?_) fun e t ⟨⟨u, a, e1, e2, e3⟩, q⟩ => ?_) (F.args_zip_next_1 _))))
  · exact ⟨v, e, wpAny_pure q⟩
  · subst e1
    refine wpAny_bind (wpAny_isInstance (T := "StopIteration") (b := true) ⟨u, e2, e3⟩ isSubtype_stop ?_)
    exact wpAny_pure q
end
end DZ

set_option Elab.async false
set_option linter.all false
set_option maxRecDepth 100000
set_option maxHeartbeats 5000000
/-! zip of a tuple and a list: made, turned; list(zip(..)) of two tuples: drained -/
namespace DZ
open PySem L2 PySem.Spec PyProof.Rows
abbrev mz1 (h : Heap) (a : Addr) : Heap := h.push { cls := .type "tuple_iterator", data := .fields #[.ref a, .int 0 0] }
abbrev mz2 (h : Heap) (a b : Addr) : Heap := (mz1 h a).push { cls := .type "list_iterator", data := .fields #[.ref b, .int 0 0] }
abbrev mz3 (h : Heap) (a b : Addr) : Heap := (mz2 h a b).push { cls := .type "tuple", data := .seq #[.ref h.objs.size, .ref (mz1 h a).objs.size] }
abbrev mz4 (h : Heap) (a b : Addr) : Heap := (mz3 h a b).push { cls := .type "tuple", data := .seq #[.none, .none] }
abbrev mz5 (h : Heap) (a b : Addr) : Heap := (mz4 h a b).push { cls := .type "zip", data := .fields #[.none, .bool false, .bool false, .ref (mz2 h a b).objs.size, .ref (mz3 h a b).objs.size] }
theorem meets_zipM_new (a b : Addr) (xs ys : Array Value) :
    Meets (Builtin.«zip.__new__» ⟨[.type "zip", .ref a, .ref b], []⟩) (fun _ R s => s.heap.IsTuple a xs ∧ s.heap.IsList b ys ∧ R (.ok (.ret (.ref (mz4 s.heap a b).objs.size))) { s with heap := mz5 s.heap a b }) :=
  .of_wp fun prog w A R s h => by
    obtain ⟨h0, g0, d0, t0, o0⟩ := s; obtain ⟨ha, hb, fin⟩ := h
    have sub_ := sub_zip
    have La : Heap.IsTuple (Shared.heap ⟨h0, g0, d0, t0, o0⟩) a xs := ha
    have Lb : Heap.IsList (Shared.heap ⟨h0.push { cls := .type "tuple_iterator", data := .fields #[.ref a, .int 0 0] }, g0, d0, t0, o0⟩) b ys := Heap.IsList.push hb _
    wp_walk using wpAny_pyIter_tuple La, wpAny_pyIter_list Lb
    exact ⟨_, rfl, fin⟩
section
variable {P : Program} {w : World} {A : Around} {E : Value → Shared → Prop} {s : Shared}
theorem call_zipM {a b : Addr} {xs ys : Array Value} {Q : Value → Shared → Prop} (ha : s.heap.IsTuple a xs) (hb : s.heap.IsList b ys)
    (fin : ∀ g, IsZip g (s.heap.objs.size + 4) (s.heap.objs.size + 2) (s.heap.objs.size + 3) .none → IsPair g (s.heap.objs.size + 2) (.ref s.heap.objs.size) (.ref (s.heap.objs.size + 1)) →
      IsPair g (s.heap.objs.size + 3) .none .none → g.IsTupleIter s.heap.objs.size a 0 → g.IsListIter (s.heap.objs.size + 1) b 0 →
      (∀ q u, s.heap.get? q = some u → g.get? q = some u) → Q (.ref (s.heap.objs.size + 4)) { s with heap := g }) :
    wpAny (model P w) A (call (.type "zip") [.ref a, .ref b]) Q E s := by
  refine callType_new F.called_zip (by decide) (F.typeCall_zip_2 _ _) (F.newCall_zip_2 _ _) (fun q => F.args_object_init_3 q _ _) F.entry_zip_new (meets_zipM_new a b xs ys) ⟨ha, hb, ?_⟩
  have n1 : (mz1 s.heap a).objs.size = s.heap.objs.size + 1 := Heap.size_push ..
  have n2 : (mz2 s.heap a b).objs.size = s.heap.objs.size + 2 := by rw [Heap.size_push, n1]
  have n3 : (mz3 s.heap a b).objs.size = s.heap.objs.size + 3 := by rw [Heap.size_push, n2]
  have n4 : (mz4 s.heap a b).objs.size = s.heap.objs.size + 4 := by rw [Heap.size_push, n3]
  have u1 : ∀ {h : Heap} {o : Obj} {q : Addr} {u : Obj}, h.get? q = some u → (h.push o).get? q = some u := fun e => Heap.get?_push_of_some _ e
  have e5 : (mz5 s.heap a b).get? (mz4 s.heap a b).objs.size = some _ := Heap.get?_push_size _ rfl
  have e4 : (mz5 s.heap a b).get? (mz3 s.heap a b).objs.size = some _ := u1 (Heap.get?_push_size _ rfl)
  have e3 : (mz5 s.heap a b).get? (mz2 s.heap a b).objs.size = some _ := u1 (u1 (Heap.get?_push_size _ rfl))
  have e2 : (mz5 s.heap a b).get? (mz1 s.heap a).objs.size = some _ := u1 (u1 (u1 (Heap.get?_push_size _ rfl)))
  have e1 : (mz5 s.heap a b).get? s.heap.objs.size = some _ := u1 (u1 (u1 (u1 (Heap.get?_push_size _ rfl))))
  show _ ∧ _
  rw [n2, n3, n4] at e5
  rw [n1, n2] at e3
  rw [n3] at e4
  rw [n1] at e2
  rw [n4]
  exact ⟨⟨_, e5, rfl⟩, fin _ e5 e3 e4 ⟨_, e1, rfl, rfl⟩ ⟨_, e2, rfl, rfl⟩ fun q u e => u1 (u1 (u1 (u1 (u1 e))))⟩
end
/-- a tuple at a and a list at b, side by side -/
def ItzM (K : PySem.W.Frag) (a b : Addr) : It :=
  ⟨fun i H => ∃ (xs ys : List V) (x y : V), SqT K H a xs ∧ SqL K H b ys ∧ xs[i]? = some x ∧ ys[i]? = some y, fun i H v H' => ∃ T x y, v = .ref T ∧ H T = none ∧ H' = upd H T (.tup [x, y]) ∧ (∀ xs, SqT K H a xs → xs[i]? = some x) ∧ ∀ ys, SqL K H b ys → ys[i]? = some y,
    fun i H => ∃ xs ys : List V, SqT K H a xs ∧ SqL K H b ys ∧ (xs.length ≤ i ∨ ys.length ≤ i)⟩
abbrev Zst (a b z TI TO i1 i2 : Addr) (i : Nat) (h : Heap) : Prop := IsZip h z TI TO .none ∧ IsPair h TI (.ref i1) (.ref i2) ∧ (∃ x y, IsPair h TO x y) ∧ h.IsTupleIter i1 a i ∧ h.IsListIter i2 b i
theorem turn_zipM {P : Program} {w : World} {K : PySem.W.Frag} {elts : List Expr} {kk : Nat} {tpos : Pos} {a b z TI TO i1 i2 : Addr} (D : ZipApart z TI TO i1 i2 a b) :
    Turn P w K (.Tuple elts kk tpos) (ItzM K a b) [z, TI, TO, i1, i2] z (Zst a b z TI TO i1 i2) where
  mem := by simp
  obj := fun i h ⟨zz, ti, ⟨x, y, to⟩, ⟨o1, e1, _, d1⟩, ⟨o2, e2, _, d2⟩⟩ c hc => by
    have five : c = z ∨ c = TI ∨ c = TO ∨ c = i1 ∨ c = i2 := by simpa using hc
    rcases five with q | q | q | q | q <;> rw [q]
    · exact ⟨_, zz, fun v q => nomatch q⟩
    · exact ⟨_, ti, fun v q => nomatch q⟩
    · exact ⟨_, to, fun v q => nomatch q⟩
    · exact ⟨o1, e1, fun v q => by rw [d1] at q; cases q⟩
    · exact ⟨o2, e2, fun v q => by rw [d2] at q; cases q⟩
  keep := fun i h h' ⟨zz, ti, ⟨x, y, to⟩, t1, t2⟩ k => ⟨k z (by simp) _ zz, k TI (by simp) _ ti, ⟨x, y, k TO (by simp) _ to⟩, t1.at fun o q => k i1 (by simp) o q, t2.at fun o q => k i2 (by simp) o q⟩
  item := by
    intro X eP ew eK calm i pins s σ H E I fp st go
    subst eP ew eK
    obtain ⟨zz, ti, ⟨x0, y0, to⟩, t1, t2⟩ := st
    obtain ⟨xs, ys, x, y, sx, sy, hx, hy⟩ := go
    obtain ⟨ix, rx, px, _⟩ := I.tuple sx
    obtain ⟨iy, ry, py, _⟩ := I.list sy
    obtain ⟨u, hu, ru⟩ := rx.get hx
    obtain ⟨v, hv, rv⟩ := ry.get hy
    have zl : z < s.heap.objs.size := Heap.lt_size zz
    refine zx_give zz rfl (wpAny_mono (zv_give (ivT D.l1i1.symm) (ivL D.l2i2.symm) D zz ti to ⟨t1, px⟩ ⟨t2, py.isList⟩ (x := u) (y := v) (by simpa using hu) (by simpa using hv) (Q := fun v t => ∃ g, v = .ref s.heap.objs.size ∧ t = { s with heap := g } ∧ IsZip g z TI TO (rawInt s.heap.objs.size) ∧ IsPair g TO u _ ∧ stT i1 a _ g (i + 1) ∧ stL i2 b _ g (i + 1) ∧ IsPair g s.heap.objs.size u _ ∧ (∀ q u, q ≠ z → q ≠ TO → q ≠ i1 → q ≠ i2 → s.heap.get? q = some u → g.get? q = some u)) fun g c1 c2 c3 c4 c5 _ c6 => ⟨g, rfl, rfl, c1, c2, c3, c4, c5, c6⟩) (fun f t hf => ?_) fun e t he => he)
    obtain ⟨_, rfl, g, rfl, rfl, c1, c2, c3, c4, c5, c6⟩ := hf
    refine ⟨_, rfl, _, rfl, wpAny_letOwnedTupleGo_zip (s := { s with heap := g }) c1 fun g2 z2 sb => ?_⟩
    have pr : g2.get? s.heap.objs.size = some { cls := .type "tuple", data := .seq #[u, v] } := (sb.2 _ (Nat.ne_of_gt zl)).trans c5
    have new : ObjOk X.prog X.w (upd H s.heap.objs.size (.tup [x, y])) g2 s.heap.objs.size (.tup [x, y]) := ⟨by show 2 ≤ sizeLine; decide, [u, v], .cons ru (.cons rv .nil), ⟨_, pr, rfl, _, rfl⟩⟩
    have I1 : Inv X pins σ (upd H s.heap.objs.size (.tup [x, y])) { s with heap := g2 } :=
      I.turnedNew (t' := s.toks) (ch := [z, TI, TO, i1, i2]) (fun q o hb e => (sb.2 q (fun e' => hb (by simp [e']))).trans (c6 q o (fun e' => hb (by simp [e'])) (fun e' => hb (by simp [e'])) (fun e' => hb (by simp [e'])) (fun e' => hb (by simp [e'])) e)) fp (Nat.le_refl _) new
    refine ⟨.ref s.heap.objs.size, _, I1, rfl, ⟨_, x, y, rfl, I.hok.fresh (Nat.le_refl _), rfl, fun l hl => by rw [I.tuple_inj hl sx]; exact hx, fun l hl => by rw [I.list_inj hl sy]; exact hy⟩, ⟨z2, ?_, ⟨u, v, (sb.2 _ D.TOz).trans c2⟩, c3.1.at fun o q => (sb.2 _ D.i1z).trans q, c4.1.at fun o q => (sb.2 _ D.i2z).trans q⟩, fun c hcm => ?_⟩
    · exact (sb.2 _ D.TIz).trans (c6 _ _ D.TIz D.TITO D.TIi1 D.TIi2 ti)
    · have lt : c < s.heap.objs.size := by
        have five : c = z ∨ c = TI ∨ c = TO ∨ c = i1 ∨ c = i2 := by simpa using hcm
        rcases five with q | q | q | q | q <;> rw [q]
        · exact zl
        · exact Heap.lt_size ti
        · exact Heap.lt_size to
        · obtain ⟨_, e1, _⟩ := t1; exact Heap.lt_size e1
        · obtain ⟨_, e2, _⟩ := t2; exact Heap.lt_size e2
      rw [upd_ne (Nat.ne_of_lt lt)]; exact (fp c hcm).1
  done := by
    intro X eP ew eK calm i pins s σ H E I fp st stop
    subst eP ew eK
    obtain ⟨zz, ti, ⟨x0, y0, to⟩, t1, t2⟩ := st
    obtain ⟨xs, ys, sx, sy, hend⟩ := stop
    obtain ⟨ix, rx, px, _⟩ := I.tuple sx
    obtain ⟨iy, ry, py, _⟩ := I.list sy
    have n1 := rx.length
    have n2 := ry.length
    have he : ix.toArray[i]? = none ∨ iy.toArray[i]? = none := by
      rcases hend with q | q
      · left; simp; omega
      · right; simp; omega
    refine zx_give zz rfl (zv_over (I.ok.hd calm) (ivT D.l1i1.symm) (ivL D.l2i2.symm) D zz ti to ⟨t1, px⟩ ⟨t2, py.isList⟩ he fun g e k hs => ?_)
    obtain ⟨u, u1, u2⟩ := hs
    exact ⟨⟨u, e, rfl, u1, u2⟩, rfl, I.turnedL (t' := s.toks) (ch := [z, TI, TO, i1, i2]) (fun q o hb e => k q o (fun e' => hb (by simp [e'])) (fun e' => hb (by simp [e'])) (fun e' => hb (by simp [e'])) (fun e' => hb (by simp [e'])) e) fp⟩
  self := fun A i s Q E st h => wpAny_pyIter_zip st.1 h
end DZ

set_option Elab.async false
set_option linter.all false
set_option maxRecDepth 100000
set_option maxHeartbeats 5000000
/-! a loop over zip(..) of two lists, two tuples, a tuple and a list; list(zip(..)) of two tuples -/
namespace DZ
open PySem L2 PySem.Spec PyProof.Rows
def iZipB (K : PySem.W.Frag) (ta : TA) : TI := fun σ H R => ta σ H fun vs H1 => ∃ a b xs ys, vs = [.ref a, .ref b] ∧
  ((SqL K H1 a xs ∧ SqL K H1 b ys ∧ R (Itz K a b) H1) ∨ (SqT K H1 a xs ∧ SqT K H1 b ys ∧ R (RZ.ItzT K a b) H1) ∨ (SqT K H1 a xs ∧ SqL K H1 b ys ∧ R (ItzM K a b) H1))
theorem pi_zipB {X : Cx} {e e2 : Expr} {ta : TA} {p pos tpos : Pos} {elts : List Expr} {kk : Nat} (hg : Gl X "zip") (hm : X.mg "zip" = none) (ha : PA X [e, e2] ta) (hs : starEach [e, e2] X.env = (false, eval e X.env) :: starEach [e2] X.env := by rfl) (hpl : (backTo pos (starEach [e2] X.env)).any (·.1) = false := by rfl) :
    PI X (.Tuple elts kk tpos) (.Call (.Name "zip" p) [e, e2] [] pos) (iZipB X.K ta) := by
  constructor
  intro pins s σ H R I h
  refine Call_ (ld_blt I hg hm PyProof.Rows.boot_zip (PyProof.Rows.callWith_type1 (thn (ha.run pos pins s σ H _ I h) fun us s1 ⟨vs, H1, I1, r1, q1⟩ => ?_) hs hpl))
  obtain ⟨a, b, xs, ys, rfl, q1⟩ := q1
  obtain ⟨u, us, rfl, ra, r2⟩ : ∃ u us', us = u :: us' ∧ RelV (.ref a) u ∧ Vals [.ref b] us' := by
    cases r1 with
    | cons r rr => exact ⟨_, _, rfl, r, rr⟩
  obtain ⟨v, rfl, rb⟩ := vals1 r2
  cases ra
  cases rb
  · skip
    have young : ∀ c, c ∈ [s1.heap.objs.size + 4, s1.heap.objs.size + 2, s1.heap.objs.size + 3, s1.heap.objs.size, s1.heap.objs.size + 1] → FpOk X pins H1 c := fun c hc => by
      have le : s1.heap.objs.size ≤ c := by
        simp only [List.mem_cons, List.not_mem_nil, or_false] at hc
        rcases hc with e | e | e | e | e <;> rw [e]
        · exact Nat.le_add_right _ _
        · exact Nat.le_add_right _ _
        · exact Nat.le_add_right _ _
        · exact Nat.le_refl _
        · exact Nat.le_add_right _ _
      exact I1.fpOk le (I1.hok.fresh le)
    rcases q1 with ⟨sa, sb, q⟩ | ⟨sa, sb, q⟩ | ⟨sa, sb, q⟩
    · obtain ⟨ia, va, pa, _⟩ := I1.list sa
      obtain ⟨ib, vb, pb, _⟩ := I1.list sb
      refine call_zip_2 pa.isList pb.isList fun g z1 z2 z3 z4 z5 _ k => wpAny_pyIter_zip z1 ⟨s1.heap.objs.size + 4, [s1.heap.objs.size + 4, s1.heap.objs.size + 2, s1.heap.objs.size + 3, s1.heap.objs.size, s1.heap.objs.size + 1], _, _, H1, rfl, I1.kept (t' := s1.toks) k, turn_zip (PySem.W.ktu_apart s1.heap.objs.size a b pa.lt pb.lt), ⟨z1, z2, ⟨_, _, z3⟩, z4, z5⟩, young, q⟩
    · obtain ⟨ia, va, pa, _⟩ := I1.tuple sa
      obtain ⟨ib, vb, pb, _⟩ := I1.tuple sb
      obtain ⟨oa, ea, _⟩ := id pa
      obtain ⟨ob, eb, _⟩ := id pb
      refine RZ.call_zipT (show s1.heap.IsTuple a ia.toArray from pa) (show s1.heap.IsTuple b ib.toArray from pb) fun g z1 z2 z3 z4 z5 _ k => wpAny_pyIter_zip z1 ⟨s1.heap.objs.size + 4, [s1.heap.objs.size + 4, s1.heap.objs.size + 2, s1.heap.objs.size + 3, s1.heap.objs.size, s1.heap.objs.size + 1], _, _, H1, rfl, I1.kept (t' := s1.toks) k, RZ.turn_zipT (PySem.W.ktu_apart s1.heap.objs.size a b (Heap.lt_size ea) (Heap.lt_size eb)), ⟨z1, z2, ⟨_, _, z3⟩, z4, z5⟩, young, q⟩
    · obtain ⟨ia, va, pa, _⟩ := I1.tuple sa
      obtain ⟨ib, vb, pb, _⟩ := I1.list sb
      obtain ⟨oa, ea, _⟩ := id pa
      refine call_zipM (show s1.heap.IsTuple a ia.toArray from pa) pb.isList fun g z1 z2 z3 z4 z5 k => wpAny_pyIter_zip z1 ⟨s1.heap.objs.size + 4, [s1.heap.objs.size + 4, s1.heap.objs.size + 2, s1.heap.objs.size + 3, s1.heap.objs.size, s1.heap.objs.size + 1], _, _, H1, rfl, I1.kept (t' := s1.toks) k, turn_zipM (PySem.W.ktu_apart s1.heap.objs.size a b (Heap.lt_size ea) pb.lt), ⟨z1, z2, ⟨_, _, z3⟩, z4, z5⟩, young, q⟩

/-! list(zip(..)) -/
section
variable {X : Cx} {pins : List (Addr × Obj)} {σ : L2.St} {z TI TO i1 i2 l1 l2 S : Addr} {xs ys : Array Value} {vx vy : List V} {H0 : Hp}
/-- what is drained so far -/
structure Dz (X : Cx) (pins : List (Addr × Obj)) (σ : L2.St) (S : Addr) (vx vy : List V) (H0 : Hp) (i : Nat) (s : Shared) (H : Hp) (acc : Array Value) (c : Nat) (Ts : List Addr) : Prop where
  inv : Inv X pins σ H s
  fp : FpOk X pins H S
  st : s.heap.get? S = some (lstObj acc c)
  len : Ts.length = i
  vals : Vals (Ts.map V.ref) acc.toList
  prs : ∀ (j : Nat) (T : Addr) (x y : V), Ts[j]? = some T → vx[j]? = some x → vy[j]? = some y → H T = some (.tup [x, y])
  ext : ∀ b o, H0 b = some o → H b = some o
/-- where the zip stands -/
structure Wz (X : Cx) (pins : List (Addr × Obj)) (z TI TO i1 i2 l1 l2 S : Addr) (xs ys : Array Value) (i : Nat) (s : Shared) (H : Hp) : Prop where
  fp : ∀ b ∈ [z, TI, TO, i1, i2], FpOk X pins H b
  zs : (IsZip s.heap z TI TO .none ∧ ∃ a b, IsPair s.heap TO a b) ∨ ∃ T f, IsZipHeld s.heap z TI TO T f ∧ (∃ o, s.heap.get? T = some o) ∧ T ∉ [z, TO, i1, i2, S]
  ti : IsPair s.heap TI (.ref i1) (.ref i2)
  to : ∃ o, s.heap.get? TO = some o
  a1 : stT i1 l1 xs s.heap i
  a2 : stT i2 l2 ys s.heap i
theorem next_some {A : Around} {E : Value → Shared → Prop} {s : Shared} {H : Hp} {i : Nat} {x y : Value} {oS : Obj} {Q : Option Value → Shared → Prop} (D : ZipApart z TI TO i1 i2 l1 l2) (W : Wz X pins z TI TO i1 i2 l1 l2 S xs ys i s H) (hS : s.heap.get? S = some oS) (hx : xs[i]? = some x) (hy : ys[i]? = some y)
    (fin : ∀ g, (∃ T f, IsZipHeld g z TI TO T f ∧ (∃ o, g.get? T = some o) ∧ T ∉ [z, TO, i1, i2, S]) → stT i1 l1 xs g (i + 1) → stT i2 l2 ys g (i + 1) → IsPair g s.heap.objs.size x y → (∃ o, g.get? TO = some o) →
      (∀ q u, q ≠ z → q ≠ TO → q ≠ i1 → q ≠ i2 → s.heap.get? q = some u → g.get? q = some u) → Q (some (.ref s.heap.objs.size)) { s with heap := g }) :
    wpAny (model X.prog X.w) A (pyNext (.ref z)) Q E s := by
  have small : ∀ q ∈ [z, TO, i1, i2, S], q < s.heap.objs.size := fun q hq => by
    simp only [List.mem_cons, List.not_mem_nil, or_false] at hq
    rcases hq with e | e | e | e | e <;> rw [e]
    · rcases W.zs with h | ⟨_, _, h, _⟩
      · exact Heap.lt_size h.1
      · exact Heap.lt_size h
    · obtain ⟨o, ho⟩ := W.to; exact Heap.lt_size ho
    · obtain ⟨⟨_, e1, _⟩, _⟩ := W.a1; exact Heap.lt_size e1
    · obtain ⟨⟨_, e1, _⟩, _⟩ := W.a2; exact Heap.lt_size e1
    · exact Heap.lt_size hS
  rcases W.zs with ⟨hz, a, b, to⟩ | ⟨T, f, hz, ⟨oT, ht⟩, nT⟩
  · refine zx_give hz rfl (wpAny_mono (zv_give (ivT D.l1i1.symm) (ivT D.l2i2.symm) D hz W.ti to W.a1 W.a2 hx hy (Q := fun v t => Q (some v) t) fun g c1 c2 c3 c4 c5 _ c6 => ?_) (fun f t hf => hf) fun e t he => he)
    exact fin g ⟨_, _, c1, ⟨_, c5⟩, fun h => absurd (small _ h) (Nat.lt_irrefl _)⟩ c3 c4 c5 ⟨_, c2⟩ c6
  · refine zx_give hz rfl (wpAny_mono (zh_give (ivT D.l1i1.symm) (ivT D.l2i2.symm) D hz ht W.ti W.a1 W.a2 hx hy (Q := fun v t => Q (some v) t) fun g c1 c3 c4 c5 _ c6 => ?_) (fun f t hf => hf) fun e t he => he)
    obtain ⟨oO, ho⟩ := W.to
    simp only [List.mem_cons, List.not_mem_nil, or_false, not_or] at nT
    exact fin g ⟨_, _, c1, ⟨_, c6 _ _ nT.1 nT.2.2.1 nT.2.2.2.1 ht⟩, by simp [nT]⟩ c3 c4 c5 ⟨_, c6 _ _ D.TOz D.TOi1 D.TOi2 ho⟩ fun q u q1 _ q3 q4 e => c6 q u q1 q3 q4 e
theorem next_none {A : Around} {E : Value → Shared → Prop} {s : Shared} {H : Hp} {i : Nat} {Q : Option Value → Shared → Prop} (hh : A.handled = none) (D : ZipApart z TI TO i1 i2 l1 l2) (W : Wz X pins z TI TO i1 i2 l1 l2 S xs ys i s H) (he : xs[i]? = none ∨ ys[i]? = none)
    (fin : ∀ g, (∀ q u, q ≠ z → q ≠ TO → q ≠ i1 → q ≠ i2 → s.heap.get? q = some u → g.get? q = some u) → Q none { s with heap := g }) :
    wpAny (model X.prog X.w) A (pyNext (.ref z)) Q E s := by
  rcases W.zs with ⟨hz, a, b, to⟩ | ⟨T, f, hz, ⟨oT, ht⟩, nT⟩
  · refine zx_give hz rfl (zv_over hh (ivT D.l1i1.symm) (ivT D.l2i2.symm) D hz W.ti to W.a1 W.a2 he fun g e k ⟨u, u1, u2⟩ => ⟨⟨u, e, rfl, u1, u2⟩, fin g k⟩)
  · refine zx_give hz rfl (zh_over hh (ivT D.l1i1.symm) (ivT D.l2i2.symm) D hz ht W.ti W.a1 W.a2 he fun g e k ⟨u, u1, u2⟩ => ⟨⟨u, e, rfl, u1, u2⟩, fin g fun q u q1 _ q3 q4 e => k q u q1 q3 q4 e⟩)
end
end DZ

set_option Elab.async false
set_option linter.all false
set_option maxRecDepth 100000
set_option maxHeartbeats 5000000
/-! list(zip(..)) of two tuples -/
namespace DZ
open PySem L2 PySem.Spec PyProof.Rows
section
variable {X : Cx} {pins : List (Addr × Obj)} {σ : L2.St} {z TI TO i1 i2 l1 l2 S : Addr} {xs ys : Array Value} {vx vy : List V} {H0 : Hp}
theorem valsGet : ∀ {xs : List V} {us : List Value} {i : Nat} {u : Value}, Vals xs us → us[i]? = some u → ∃ x, xs[i]? = some x ∧ RelV x u
  | _, _, i, _, .nil, e => by simp at e
  | _, _, 0, _, .cons r _, e => by simp at e; subst e; exact ⟨_, rfl, r⟩
  | _, _, i + 1, u, .cons _ l, e => by
    obtain ⟨x, h1, h2⟩ := valsGet (i := i) (u := u) l (by simpa using e)
    exact ⟨x, by simpa using h1, h2⟩
theorem zdrain {A : Around} {R : Result → Shared → Prop} {res : Value} (hh : A.handled = none) (D : ZipApart z TI TO i1 i2 l1 l2) (nS : S ∉ [z, TI, TO, i1, i2, l1, l2]) (rx : Vals vx xs.toList) (ry : Vals vy ys.toList) (few : min xs.size ys.size < sizeLine)
    (fin : ∀ s H acc c Ts, Dz X pins σ S vx vy H0 (min xs.size ys.size) s H acc c Ts → R (.ok (.ret res)) s) : ∀ (m i : Nat) (s : Shared) (H : Hp) (acc : Array Value) (c : Nat) (Ts : List Addr), i + m = min xs.size ys.size → Dz X pins σ S vx vy H0 i s H acc c Ts → Wz X pins z TI TO i1 i2 l1 l2 S xs ys i s H →
      codeAny (model X.prog X.w) A (.builtin "list.extend.loop" ⟨[.ref S, .ref z, res], []⟩) R s := by
  simp only [List.mem_cons, List.not_mem_nil, or_false, not_or] at nS
  obtain ⟨nz, nTI, nTO, ni1, ni2, nl1, nl2⟩ := nS
  intro m
  induction m with
  | zero =>
    intro i s H acc c Ts hi dz wz
    refine codeAny_builtin F.entry_extend_loop ?_
    rw [Around.under_plainId F.plain_extend_loop _]
    show wpAny _ A.in1 (pyNext (.ref z) >>= _) _ _ s
    refine wpAny_bind (next_none (A := A.in1) hh D wz ?_ fun g k => ?_)
    · rcases (by omega : xs.size ≤ i ∨ ys.size ≤ i) with h | h
      · exact .inl (by simp; omega)
      · exact .inr (by simp; omega)
    · refine wpAny_pure (fin _ H acc c Ts ⟨dz.inv.turnedL (t' := s.toks) (ch := [z, TI, TO, i1, i2]) (fun q o hb e => ?_) wz.fp, dz.fp, k _ _ nz nTO ni1 ni2 dz.st, by rw [dz.len]; omega, dz.vals, dz.prs, dz.ext⟩)
      simp only [List.mem_cons, List.not_mem_nil, or_false, not_or] at hb
      exact k q o hb.1 hb.2.2.1 hb.2.2.2.1 hb.2.2.2.2 e
  | succ m ih =>
    intro i s H acc c Ts hi dz wz
    obtain ⟨x, hx⟩ : ∃ x, xs[i]? = some x := ⟨_, Array.getElem?_eq_getElem (by omega)⟩
    obtain ⟨y, hy⟩ : ∃ y, ys[i]? = some y := ⟨_, Array.getElem?_eq_getElem (by omega)⟩
    obtain ⟨x', hx', rx'⟩ := valsGet rx (i := i) (u := x) (by rw [Array.getElem?_toList]; exact hx)
    obtain ⟨y', hy', ry'⟩ := valsGet ry (i := i) (u := y) (by rw [Array.getElem?_toList]; exact hy)
    have asz : acc.size = i := by
      have := dz.vals.length
      rw [List.length_map, dz.len, Array.length_toList] at this
      exact this.symm
    refine codeAny_builtin F.entry_extend_loop ?_
    rw [Around.under_plainId F.plain_extend_loop _]
    show wpAny _ A.in1 (pyNext (.ref z) >>= _) _ _ s
    refine wpAny_bind (next_some D wz dz.st hx hy fun g hz b1 b2 pr to k => ?_)
    have S1 : g.get? S = some (lstObj acc c) := k _ _ nz nTO ni1 ni2 dz.st
    show wpAny _ A.in1 (updateSeq S (·.push (.ref s.heap.objs.size)) >>= _) _ _ _
    refine wpAny_bind ?_
    refine wpAny_updateSeq S1 rfl (wpAny_pure ⟨plainId_quiet F.plain_extend_loop _, ?_⟩) (by show acc.size ≤ _; omega) (by show (acc.push _).size ≤ sizeLine + 1; rw [Array.size_push]; omega)
    have Sl : S < s.heap.objs.size := Heap.lt_size dz.st
    have keep : ∀ q o, q ≠ S → g.get? q = some o → (g.update S (Obj.mapSeq (·.push (.ref s.heap.objs.size)))).get? q = some o := fun q o ne e => (Heap.get?_update_other _ _ (Ne.symm ne)).trans e
    obtain ⟨c2, S2⟩ : ∃ c2, (g.update S (Obj.mapSeq (·.push (.ref s.heap.objs.size)))).get? S = some (lstObj (acc.push (.ref s.heap.objs.size)) c2) := ⟨_, Heap.get?_update_self _ S1 rfl⟩
    generalize g.update S (Obj.mapSeq (·.push (.ref s.heap.objs.size))) = g2 at keep S2 ⊢
    have pr2 : IsPair g2 s.heap.objs.size x y := keep _ _ (Nat.ne_of_gt Sl) pr
    have new : ObjOk X.prog X.w (upd H s.heap.objs.size (.tup [x', y'])) g2 s.heap.objs.size (.tup [x', y']) := ⟨by show 2 ≤ sizeLine; decide, [x, y], .cons rx' (.cons ry' .nil), ⟨_, pr2, rfl, _, rfl⟩⟩
    have fp6 : ∀ b ∈ [z, TI, TO, i1, i2, S], FpOk X pins H b := fun b hb => by
      rcases (by simpa using hb : b = z ∨ b = TI ∨ b = TO ∨ b = i1 ∨ b = i2 ∨ b = S) with e | e | e | e | e | e
      · exact wz.fp b (by simp [e])
      · exact wz.fp b (by simp [e])
      · exact wz.fp b (by simp [e])
      · exact wz.fp b (by simp [e])
      · exact wz.fp b (by simp [e])
      · rw [e]; exact dz.fp
    have I1 : Inv X pins σ (upd H s.heap.objs.size (.tup [x', y'])) { s with heap := g2 } :=
      dz.inv.turnedNew (t' := s.toks) (ch := [z, TI, TO, i1, i2, S]) (fun q o hb e => by
        simp only [List.mem_cons, List.not_mem_nil, or_false, not_or] at hb
        exact keep q o hb.2.2.2.2.2 (k q o hb.1 hb.2.2.1 hb.2.2.2.1 hb.2.2.2.2.1 e)) fp6 (Nat.le_refl _) new
    have hn : H s.heap.objs.size = none := dz.inv.hok.fresh (Nat.le_refl _)
    have up : ∀ b o, H b = some o → upd H s.heap.objs.size (.tup [x', y']) b = some o := fun b o e => by
      rw [upd_ne (fun q => by rw [q, hn] at e; cases e)]; exact e
    have fpu : ∀ b, b < s.heap.objs.size → FpOk X pins H b → FpOk X pins (upd H s.heap.objs.size (.tup [x', y'])) b := fun b lt h => ⟨by rw [upd_ne (Nat.ne_of_lt lt)]; exact h.1, h.2⟩
    refine ih (i + 1) { s with heap := g2 } _ (acc.push (.ref s.heap.objs.size)) c2 (Ts ++ [s.heap.objs.size]) (by omega) ⟨I1, fpu S Sl dz.fp, S2, by rw [List.length_append, dz.len]; rfl, ?_, ?_, fun b o e => up b o (dz.ext b o e)⟩ ⟨fun b hb => fpu b ?_ (wz.fp b hb), ?_, keep _ _ (Ne.symm nTI) (k _ _ D.TIz D.TITO D.TIi1 D.TIi2 wz.ti), ?_, ?_, ?_⟩
    · rw [List.map_append, Array.toList_push]
      exact dz.vals.append (.cons rfl .nil)
    · intro j T a b hT ha hb
      by_cases hj : j < Ts.length
      · rw [List.getElem?_append_left hj] at hT
        exact up T _ (dz.prs j T a b hT ha hb)
      · have jl : j < (Ts ++ [s.heap.objs.size]).length := (List.getElem?_eq_some_iff.mp hT).1
        rw [List.length_append, List.length_singleton] at jl
        have : j = Ts.length := by omega
        subst this
        simp at hT
        subst hT
        rw [dz.len, hx'] at ha
        rw [dz.len, hy'] at hb
        cases ha
        cases hb
        exact upd_same
    · rcases (by simpa using hb : b = z ∨ b = TI ∨ b = TO ∨ b = i1 ∨ b = i2) with e | e | e | e | e <;> rw [e]
      · rcases wz.zs with h | ⟨_, _, h, _⟩
        · exact Heap.lt_size h.1
        · exact Heap.lt_size h
      · exact Heap.lt_size wz.ti
      · obtain ⟨o, ho⟩ := wz.to; exact Heap.lt_size ho
      · obtain ⟨⟨_, e1, _⟩, _⟩ := wz.a1; exact Heap.lt_size e1
      · obtain ⟨⟨_, e1, _⟩, _⟩ := wz.a2; exact Heap.lt_size e1
    · obtain ⟨T, f, h1, ⟨o, h2⟩, h3⟩ := hz
      refine .inr ⟨T, f, keep _ _ (Ne.symm nz) h1, ⟨o, keep _ _ (fun q => h3 (by simp [q])) h2⟩, h3⟩
    · obtain ⟨o, ho⟩ := to
      exact ⟨o, keep _ _ (Ne.symm nTO) ho⟩
    · exact (ivT (P := X.prog) (w := X.w) D.l1i1.symm).stay b1 fun q u hq e => keep q u (by rcases hq with rfl | rfl; exact Ne.symm ni1; exact Ne.symm nl1) e
    · exact (ivT (P := X.prog) (w := X.w) D.l2i2.symm).stay b2 fun q u hq e => keep q u (by rcases hq with rfl | rfl; exact Ne.symm ni2; exact Ne.symm nl2) e
end
end DZ

set_option Elab.async false
set_option linter.all false
set_option maxRecDepth 100000
set_option maxHeartbeats 5000000
/-! the expression list(zip(..)) of two tuples -/
namespace DZ
open PySem L2 PySem.Spec PyProof.Rows
/-- an object of ours that stood untracked is tracked -/
theorem laidT {X : Cx} {pins : List (Addr × Obj)} {σ : L2.St} {H : Hp} {s : Shared} {S : Addr} {o : HO} (I : Inv X pins σ H s) (f : FpOk X pins H S) (new : ObjOk X.prog X.w (upd H S o) s.heap S o) : Inv X pins σ (upd H S o) s := by
  have hn := f.1
  have away : ∀ b u, H b = some u → b ≠ S := fun b u e z => by rw [z, hn] at e; cases e
  refine I.step (g' := s.gens) (d' := s.drawn) (t' := s.toks) (h' := s.heap) (ch := [S]) (fun b hb => ?_) (fun _ _ _ _ _ e _ => e) (fun _ u _ _ _ e _ => ⟨u.slots, e⟩) (fun b u hb _ e => ?_) (fun _ u _ e => ⟨u, e⟩) (fun b xs e => ?_) (fun b u y e => ?_) (fun b ps e => ⟨#[], ?_⟩) (fun _ m => m) (fun b u e => ?_) I.bare
  · rw [List.mem_singleton.mp hb]
    exact ⟨f.2.2.2.1, f.2.1, f.2.2.2.2.1, f.2.2.2.2.2⟩
  · rw [upd_ne (fun z => hb (by rw [z]; exact List.mem_singleton_self _))]; exact e
  · rw [upd_ne (away b _ e)]; exact e
  · rw [upd_ne (away b _ e)]; exact e
  · rw [upd_ne (away b _ e), e]; simp
  · by_cases hb : b = S
    · subst hb
      rw [upd_same] at e
      cases e
      exact new
    · rw [upd_ne hb] at e
      exact (I.hok b u e).stay (fun c v _ q => q) (fun c q => by rw [upd_ne (away c _ q)]; exact q) fun c xs q => by rw [upd_ne (away c _ q)]; exact q
theorem zip_no_len : typeLookup (.type "zip") "__len__" = pure none := am_miss_of_fast (by decide +kernel)
theorem zip_no_hint : typeLookup (.type "zip") "__length_hint__" = pure none := am_miss_of_fast (by decide +kernel)
section
variable {X : Cx} {pins : List (Addr × Obj)} {σ : L2.St} {z TI TO i1 i2 l1 l2 : Addr} {xs ys : Array Value} {vx vy : List V} {H : Hp} {s : Shared}
theorem call_list_zipT {Q : Value → Shared → Prop} (hc : X.calm = true) (D : ZipApart z TI TO i1 i2 l1 l2) (lt1 : l1 < s.heap.objs.size) (lt2 : l2 < s.heap.objs.size) (I : Inv X pins σ H s) (fp : ∀ b ∈ [z, TI, TO, i1, i2], FpOk X pins H b) (zz : IsZip s.heap z TI TO .none) (ti : IsPair s.heap TI (.ref i1) (.ref i2)) {a b : Value} (to : IsPair s.heap TO a b)
    (a1 : stT i1 l1 xs s.heap 0) (a2 : stT i2 l2 ys s.heap 0) (rx : Vals vx xs.toList) (ry : Vals vy ys.toList) (few : min xs.size ys.size < sizeLine)
    (fin : ∀ S s' H' acc c Ts, H S = none → Dz X pins σ S vx vy H (min xs.size ys.size) s' H' acc c Ts → Q (.ref S) s') : wpAny (model X.prog X.w) X.A (call (.type "list") [.ref z]) Q X.xe s := by
  have hh : X.A.handled = none := I.ok.hd hc
  have zl : z < s.heap.objs.size := Heap.lt_size zz
  have Sz : s.heap.objs.size ≠ z := Nat.ne_of_gt zl
  refine callType_codes (Q₁ := fun o t => o = .ref s.heap.objs.size ∧ t = { s with heap := s.heap.push { cls := .type "list", data := .seq #[] } }) F.called_list (F.typeCall_list_1 _) F.entry_list_init (code_list_new _ ⟨rfl, rfl⟩) fun o t ht => ?_
  obtain ⟨rfl, rfl⟩ := ht
  have e1 : (s.heap.push { cls := .type "list", data := .seq #[] }).get? s.heap.objs.size = some { cls := .type "list", data := .seq #[] } := Heap.get?_push_size _ rfl
  have k1 : ∀ q u, s.heap.get? q = some u → (s.heap.push { cls := .type "list", data := .seq #[] }).get? q = some u := fun q u e => Heap.get?_push_of_some _ e
  generalize s.heap.push { cls := .type "list", data := .seq #[] } = g1 at e1 k1 ⊢
  refine ⟨⟨_, e1, rfl⟩, F.args_list_init_2 _ _, ?_⟩
  show wpAny _ X.A.in1.in1 (do let old ← Builtin.List.listItems (.ref s.heap.objs.size); Builtin.List.listUpdate (.ref s.heap.objs.size) (fun _ => #[]); letGo old.toList.reverse; Builtin.List.listExtendWith (.ref s.heap.objs.size) (.ref z) .none) _ _ _
  refine wpAny_bind ?_
  unfold Builtin.List.listItems; refine wpAny_bind (wpAny_seqItems e1 rfl (wpAny_pure ?_))
  show wpAny _ X.A.in1.in1 (updateSeq s.heap.objs.size (fun _ => #[]) >>= fun _ => letGo (#[] : Array Value).toList.reverse >>= fun _ => Builtin.List.listExtendWith (.ref s.heap.objs.size) (.ref z) .none) _ _ _
  refine wpAny_bind (wpAny_updateSeq e1 rfl ?_)
  have up : ∀ (g : Heap) (f : Obj → Obj), (∀ q u, s.heap.get? q = some u → g.get? q = some u) → ∀ q u, s.heap.get? q = some u → (g.update s.heap.objs.size f).get? q = some u := fun g f k q u e => (Heap.get?_update_other _ _ (Ne.symm (Nat.ne_of_lt (Heap.lt_size e)))).trans (k q u e)
  obtain ⟨c2, e2⟩ : ∃ c, (g1.update s.heap.objs.size (Obj.mapSeq (fun _ => (#[] : Array Value)))).get? s.heap.objs.size = some (lstObj #[] c) := ⟨_, Heap.get?_update_self _ e1 rfl⟩
  have k2 := up g1 (Obj.mapSeq (fun _ => (#[] : Array Value))) k1
  generalize g1.update s.heap.objs.size (Obj.mapSeq (fun _ => (#[] : Array Value))) = g2 at e2 k2 ⊢
  refine wpAny_bind (wpAny_letGo ?_)
  unfold Builtin.List.listExtendWith
  have ty : ∀ t : Shared, t.heap = g2 → t.TypeIs (.ref z) "zip" := fun t e => ⟨_, by rw [e]; exact k2 _ _ zz, rfl⟩
  refine wpAny_bind (wpAny_typeOf (ty _ rfl) ?_)
  have t1 : Builtin.List.listSameRef (.ref s.heap.objs.size) (.ref z) = false := by simp [Builtin.List.listSameRef, Sz]
  have t2 : (Value.type "zip" == Value.type "list") = false := by decide
  have t3 : (Value.type "zip" == Value.type "tuple") = false := by decide
  simp only [t1, t2, t3, Bool.or_false, Bool.false_eq_true, if_false]
  refine wpAny_bind (wpAny_pyIter_zip (k2 _ _ zz) ?_)
  refine wpAny_bind (wpAny_holding ?_)
  unfold Builtin.List.listLengthHint
  refine wpAny_bind (wpAny_specialOf (ty _ rfl) zip_no_len ?_)
  show wpAny _ X.A.in1.in1 (specialOf (Value.ref z) (Str.ofString "__length_hint__") >>= _) _ _ _
  refine wpAny_bind (wpAny_specialOf (ty _ rfl) zip_no_hint ?_)
  refine wpAny_pure ?_
  show wpAny _ X.A.in1.in1 (rule "list.extend.makes-room" >>= fun _ => Builtin.List.listTouch (.ref s.heap.objs.size) >>= fun _ => again (.builtin "list.extend.loop" ⟨[.ref s.heap.objs.size, .ref z, .none], []⟩)) _ _ _
  refine wpAny_bind (wpAny_rule ?_); refine wpAny_bind ?_
  show wpAny _ X.A.in1.in1 (updateSeq s.heap.objs.size (·.push .none) >>= fun _ => updateSeq s.heap.objs.size (·.pop)) _ _ _
  refine wpAny_bind (wpAny_updateSeq e2 rfl ?_)
  obtain ⟨c3, e3⟩ : ∃ c, (g2.update s.heap.objs.size (Obj.mapSeq (·.push Value.none))).get? s.heap.objs.size = some (lstObj #[.none] c) := ⟨_, Heap.get?_update_self _ e2 rfl⟩
  have k3 := up g2 (Obj.mapSeq (·.push Value.none)) k2
  generalize g2.update s.heap.objs.size (Obj.mapSeq (·.push Value.none)) = g3 at e3 k3 ⊢
  refine wpAny_updateSeq (hz := by seq_fits) e3 rfl ?_
  obtain ⟨c4, e4⟩ : ∃ c, (g3.update s.heap.objs.size (Obj.mapSeq (·.pop))).get? s.heap.objs.size = some (lstObj #[] c) := ⟨_, Heap.get?_update_self _ e3 rfl⟩
  have k4 := up g3 (Obj.mapSeq (·.pop)) k3
  generalize g3.update s.heap.objs.size (Obj.mapSeq (·.pop)) = g4 at e4 k4 ⊢
  refine wpAny_pure ⟨plainId_quiet F.plain_extend_loop _, ?_⟩
  have small : ∀ q ∈ [z, TI, TO, i1, i2, l1, l2], q < s.heap.objs.size := fun q hq => by
    simp only [List.mem_cons, List.not_mem_nil, or_false] at hq
    rcases hq with e | e | e | e | e | e | e <;> rw [e]
    · exact zl
    · exact Heap.lt_size ti
    · exact Heap.lt_size to
    · obtain ⟨⟨_, e1, _⟩, _⟩ := a1; exact Heap.lt_size e1
    · obtain ⟨⟨_, e1, _⟩, _⟩ := a2; exact Heap.lt_size e1
    · exact lt1
    · exact lt2
  have hn : H s.heap.objs.size = none := I.hok.fresh (Nat.le_refl _)
  refine zdrain (X := X) (pins := pins) (σ := σ) (vx := vx) (vy := vy) (H0 := H) (A := X.A.in1) hh D (fun h => Nat.lt_irrefl _ (small _ h)) rx ry few (fun s' H' acc c Ts dz => ⟨rfl, fin _ s' H' acc c Ts hn dz⟩) (min xs.size ys.size) 0 _ H #[] c4 [] (by omega)
    ⟨I.kept (t' := s.toks) k4, I.fpOk (Nat.le_refl _) hn, e4, rfl, .nil, fun j T x y h => by simp at h, fun _ _ e => e⟩
    ⟨fp, .inl ⟨k4 _ _ zz, _, _, k4 _ _ to⟩, k4 _ _ ti, ⟨_, k4 _ _ to⟩, (ivT (P := X.prog) (w := X.w) D.l1i1.symm).stay a1 fun q u _ e => k4 q u e, (ivT (P := X.prog) (w := X.w) D.l2i2.symm).stay a2 fun q u _ e => k4 q u e⟩
end
def tListZip (K : PySem.W.Frag) (ta : TA) : TE := fun σ H Q => ta σ H fun vs H1 => ∃ a b vx vy, vs = [.ref a, .ref b] ∧ SqT K H1 a vx ∧ SqT K H1 b vy ∧ min vx.length vy.length < sizeLine ∧
  ∀ (q : Addr) (H' : Hp) (Ts : List Addr), H1 q = none → (∀ c o, H1 c = some o → H' c = some o) → Ts.length = min vx.length vy.length → (∀ (j : Nat) (T : Addr) (x y : V), Ts[j]? = some T → vx[j]? = some x → vy[j]? = some y → H' T = some (.tup [x, y])) → H' q = some (.lst (Ts.map V.ref)) → Q (.ref q) H'
theorem pe_listZip {X : Cx} {e e2 : Expr} {ta : TA} {p p2 q pos : Pos} (hc : X.calm = true) (hg : Gl X "list") (hm : X.mg "list" = none) (hg2 : Gl X "zip") (hm2 : X.mg "zip" = none) (ha : PA X [e, e2] ta) (hs : starEach [e, e2] X.env = (false, eval e X.env) :: starEach [e2] X.env := by rfl) (hpl : (backTo q (starEach [e2] X.env)).any (·.1) = false := by rfl)
    (na : starEach [Expr.Call (.Name "zip" p2) [e, e2] [] q] X.env = (false, eval (Expr.Call (.Name "zip" p2) [e, e2] [] q) X.env) :: starEach [] X.env := by rfl) : PE X (.Call (.Name "list" p) [.Call (.Name "zip" p2) [e, e2] [] q] [] pos) (tListZip X.K ta) := by
  constructor
  intro pins s σ H Q I h
  refine Call_ (ld_blt I hg hm boot_list (PyProof.Rows.callWith_type1 (args_cons ?_ na) na))
  refine Call_ (ld_blt I hg2 hm2 PyProof.Rows.boot_zip (PyProof.Rows.callWith_type1 (thn (ha.run q pins s σ H _ I h) fun us s1 ⟨vs, H1, I1, r1, q1⟩ => ?_) hs hpl))
  obtain ⟨a, b, vx, vy, rfl, sa, sb, few, q1⟩ := q1
  obtain ⟨u, us, rfl, ra, r2⟩ : ∃ u us', us = u :: us' ∧ RelV (.ref a) u ∧ Vals [.ref b] us' := by
    cases r1 with
    | cons r rr => exact ⟨_, _, rfl, r, rr⟩
  obtain ⟨v, rfl, rb⟩ := vals1 r2
  cases ra
  cases rb
  obtain ⟨ia, va, pa, _⟩ := I1.tuple sa
  obtain ⟨ib, vb, pb, _⟩ := I1.tuple sb
  obtain ⟨oa, ea, _⟩ := id pa
  obtain ⟨ob, eb, _⟩ := id pb
  have na := va.length
  have nb := vb.length
  refine RZ.call_zipT (show s1.heap.IsTuple a ia.toArray from pa) (show s1.heap.IsTuple b ib.toArray from pb) fun g z1 z2 z3 z4 z5 zs k => ?_
  refine args_nil ?_
  have young : ∀ c, c ∈ [s1.heap.objs.size + 4, s1.heap.objs.size + 2, s1.heap.objs.size + 3, s1.heap.objs.size, s1.heap.objs.size + 1] → FpOk X pins H1 c := fun c hc => by
    have le : s1.heap.objs.size ≤ c := by
      simp only [List.mem_cons, List.not_mem_nil, or_false] at hc
      rcases hc with e | e | e | e | e <;> rw [e]
      · exact Nat.le_add_right _ _
      · exact Nat.le_add_right _ _
      · exact Nat.le_add_right _ _
      · exact Nat.le_refl _
      · exact Nat.le_add_right _ _
    exact I1.fpOk le (I1.hok.fresh le)
  have pa2 : g.IsTuple a ia.toArray := by obtain ⟨o, h1, h2⟩ := pa; exact ⟨o, k _ _ h1, h2⟩
  have pb2 : g.IsTuple b ib.toArray := by obtain ⟨o, h1, h2⟩ := pb; exact ⟨o, k _ _ h1, h2⟩
  refine call_list_zipT (s := { s1 with heap := g }) (vx := vx) (vy := vy) hc (PySem.W.ktu_apart s1.heap.objs.size a b (Heap.lt_size ea) (Heap.lt_size eb)) (Heap.lt_size (k _ _ ea)) (Heap.lt_size (k _ _ eb)) (I1.kept (t' := s1.toks) k) young z1 z2 z3 ⟨z4, pa2⟩ ⟨z5, pb2⟩ va vb (by simp; omega) fun S s' H' acc c Ts hS dz => ?_
  have lT : Ts.length = min vx.length vy.length := by rw [dz.len]; simp; omega
  have I2 : Inv X pins σ (upd H' S (.lst (Ts.map V.ref))) s' := by
    refine laidT dz.inv dz.fp (show ObjOk X.prog X.w _ _ _ (.lst (Ts.map V.ref)) from ⟨by rw [List.length_map]; omega, acc.toList, c, dz.vals, ?_⟩)
    rw [Array.toArray_toList]; exact dz.st
  refine ⟨.ref S, _, I2, rfl, q1 S _ Ts hS (fun c o e => ?_) lT (fun j T x y h1 h2 h3 => ?_) upd_same⟩
  · rw [upd_ne (fun z => by rw [z, hS] at e; cases e)]; exact dz.ext c o e
  · have := dz.prs j T x y h1 h2 h3
    rw [upd_ne (fun z => by rw [z, dz.fp.1] at this; cases this)]; exact this
end DZ

set_option Elab.async false
set_option linter.all false
set_option maxRecDepth 100000
set_option maxHeartbeats 5000000
/-! ranges of any bounds -/
namespace DR
open PySem L2 PySem.Spec PyProof.Rows
theorem turn_long {P : Program} {w : World} {K : PySem.W.Frag} {tg : Expr} (j : Addr) (lo : Int) (n : Nat) : Turn P w K tg (Itr lo n) [j] j (fun m g => IsLongIter g j (lo + (m : Nat) * 1) ((n : Int) - (m : Nat)) 1) := by
  have me : j ∈ [j] := List.mem_singleton.mpr rfl
  constructor
  case mem => exact me
  case obj =>
    intro m g hS b hb
    cases List.mem_singleton.mp hb
    exact ⟨_, hS, fun v z => nomatch (show Data.fields _ = Data.cell v from z)⟩
  case keep => exact fun m g g' hS kp => kp j me _ hS
  case self => exact fun _ _ _ _ _ hS y => wpAny_pyIter_longiter hS y
  case item =>
    intro Y p1 p2 p3 cm m ps t τ V E inv fr hS hn
    cases p1; cases p2; cases p3
    have fj := fr j me
    refine (Walks.longrange (prog := Y.prog) (w := Y.w) (inv.ok.hd cm) j lo 1 n).item m t _ _ hn hS fun v g tk hv hS' same => ?_
    obtain ⟨z, rfl⟩ := hv
    have inv' : Inv Y ps τ V { t with heap := g, toks := tk } := inv.turned (fun b o hb => same b o (fun y => hb (List.mem_singleton.mp y))) fj.1 fj.2.1 fj.2.2.2.1 fj.2.2.2.2.1 fj.2.2.2.2.2
    exact ⟨_, rfl, go_of (s := { t with heap := g, toks := tk }) (n := "longrange_iterator") hS' rfl rfl (by decide) ⟨.int (lo + m), V, inv', ⟨z, by rw [Int.mul_one]⟩, ⟨rfl, rfl⟩, hS', fun b hb => (fr b hb).1⟩⟩
  case done =>
    intro Y p1 p2 p3 cm m ps t τ V E inv fr hS hn
    cases p1; cases p2; cases p3
    have fj := fr j me
    have over : n ≤ m := hn
    exact wpAny_pyNext_long_end (inv.ok.hd cm) hS (by omega) fun g same => ⟨rfl, inv.turned (t' := t.toks) (fun b o hb => same b o hb) fj.1 fj.2.1 fj.2.2.2.1 fj.2.2.2.2.1 fj.2.2.2.2.2⟩
section
variable {X : Cx} {tg : Expr} {pins : List (Addr × Obj)} {τ : L2.St} {V : Hp} {s : Shared} {R : It → Hp → Prop}
/-- an iterator just laid, that goes over numbers -/
theorem laid {o : Obj} {lo : Int} {n : Nat} {S : Nat → Heap → Prop} (inv : Inv X pins τ V s) (T : Turn X.prog X.w X.K tg (Itr lo n) [s.heap.objs.size] s.heap.objs.size S) (h0 : S 0 (s.heap.push o)) (q : R (Itr lo n) V) :
    PIE X pins τ tg R (.ref s.heap.objs.size) { s with heap := s.heap.push o } := by
  refine ⟨_, [s.heap.objs.size], _, _, V, rfl, inv.kept (t' := s.toks) fun b u => Heap.get?_push_of_some _, T, h0, fun b hb => ?_, q⟩
  cases List.mem_singleton.mp hb
  exact inv.fpOk (Nat.le_refl _) (inv.hok.fresh (Nat.le_refl _))
theorem left_of {lo hi : Int} : Builtin.Range.rangeSize lo hi 1 = (((hi - lo).toNat : Nat) : Int) - ((0 : Nat) : Int) := by
  rw [rangeSize_one]
  split <;> omega
theorem walk_any {E : Value → Shared → Prop} {lo hi : Int} {t u v : Tok} {tk : Nat} (inv : Inv X pins τ V s) (q : R (Itr lo (hi - lo).toNat) V) :
    wpAny (model X.prog X.w) X.A (pyIter (.ref s.heap.objs.size)) (PIE X pins τ tg R) E { s with toks := tk, heap := s.heap.push { data := .fields #[.int lo t, .int hi u, .int 1 v], cls := .type "range" } } := by
  have inv1 : Inv X pins τ V { s with toks := tk, heap := s.heap.push { data := .fields #[.int lo t, .int hi u, .int 1 v], cls := .type "range" } } := inv.kept fun b o => Heap.get?_push_of_some _
  have z : lo = lo + ((0 : Nat) : Int) * 1 := by rw [Int.mul_one]; exact (Int.add_zero lo).symm
  cases sz : Builtin.Range.small lo hi 1 with
  | true =>
    refine wpAny_pyIter_range (IsRange.new ..) sz (laid inv1 (turn_range _ lo (hi - lo).toNat) ?_ q)
    show Heap.get? _ _ = some _
    rw [← z, ← left_of]
    exact Heap.get?_push_size _ rfl
  | false =>
    refine wpAny_pyIter_longrange (IsRange.new ..) sz (laid inv1 (turn_long _ lo (hi - lo).toNat) ?_ q)
    show Heap.get? _ _ = some _
    rw [← z, ← left_of]
    exact Heap.get?_push_size _ rfl
end
def iRngL (ta : TA) : TI := fun τ V R => ta τ V fun vs W => ∃ i j : Int, vs = [.int i, .int j] ∧ R (Itr i (j - i).toNat) W
theorem pi_rangeL {X : Cx} {tg a b : Expr} {ta : TA} {p pos : Pos} (gl : Gl X "range") (free : X.mg "range" = none) (ha : PA X [a, b] ta) (s2 : starEach [a, b] X.env = [(false, eval a X.env), (false, eval b X.env)]) (s1 : starEach [b] X.env = [(false, eval b X.env)]) :
    PI X tg (.Call (.Name "range" p) [a, b] [] pos) (iRngL ta) := by
  constructor
  intro pins s τ V R inv h
  have args := ha.run pos pins s τ V _ inv h
  refine Call_ (ld_blt inv gl free boot_range (PyProof.Rows.callWith_type1 (thn args ?_) (by rw [s2, s1]) (by rw [s1]; rfl)))
  rintro us t ⟨vs, W, inv', rel, i, j, rfl, q⟩
  match us, rel with
  | [_, _], .cons ⟨x, e1⟩ (.cons ⟨y, e2⟩ .nil) =>
    cases e1
    cases e2
    exact call_range_2 (walk_any inv' q)
end DR

set_option Elab.async false
set_option linter.all false
set_option maxRecDepth 100000
set_option maxHeartbeats 4000000
namespace DL
open PySem L2 PySem.Spec PyProof.Rows

/-- the wish of data, lifted to values -/
abbrev Lf (K : Frg) (H : Hp) (A : List Addr) (Q : Kn) (κ : VK) : Prop := ∀ d M' v H' A', Q d M' → Stp H A H' A' → Rm K H' A' M' → Rp K H' A' v d → κ v H'
section
variable {K : Frg} {H H' : Hp} {A A' : List Addr} {M : Mem} {Q : Kn} {κ : VK}
theorem Lf.stp (l : Lf K H A Q κ) (s : Stp H A H' A') : Lf K H' A' Q κ := fun d M' v H2 A2 q t m r => l d M' v H2 A2 q (s.trans t) m r
theorem Lf.now (l : Lf K H A Q κ) (m : Rm K H A M) {v : V} {d : D} (r : Rp K H A v d) (q : Q d M) : κ v H := l d M v H A q (Stp.refl H A) m r
theorem Lf.int (l : Lf K H A Q κ) (m : Rm K H A M) {i : Int} (q : Q (.int i) M) : κ (.int i) H := l.now m (.int i) q
theorem Lf.bl (l : Lf K H A Q κ) (m : Rm K H A M) {i : Bool} (q : Q (.bl i) M) : κ (.bl i) H := l.now m (.bl i) q
theorem Lf.newT (l : Lf K H A Q κ) (m : Rm K H A M) {vs : List V} {ds : List D} (r : RpL K H A vs ds) (q : Q (.tup ds) M) (p : Addr) (hp : H p = none) : κ (.ref p) (upd H p (.tup vs)) :=
  l (.tup ds) M _ _ A q (stp_upd m hp) (rm_upd m hp) (.tup (.inl upd_same) (r.stp m (stp_upd m hp)))
theorem Lf.newL (l : Lf K H A Q κ) (m : Rm K H A M) {vs : List V} {ds : List D} (r : RpL K H A vs ds) (q : Q (.lst M.length) (M ++ [ds])) (p : Addr) (hp : H p = none) : κ (.ref p) (upd H p (.lst vs)) :=
  l (.lst M.length) _ _ _ (A ++ [p]) q (stp_new m hp) (rm_new m hp r) (rp_new m hp)
end

section
variable {X : Cx}
/-- two values in, by data -/
def rB (K : Frg) (f : D → D → Mem → Kn → Prop) : R2 := fun x y H κ => ∃ A M dx dy Q, Rp K H A x dx ∧ Rp K H A y dy ∧ Rm K H A M ∧ f dx dy M Q ∧ Lf K H A Q κ

theorem op_fdivD : OpR X (binaryOp .FloorDiv) (rI (fun i j => j ≠ 0 ∧ lg j < 9000) fun i j => .int (i.fdiv j)) := opI fun i j _ _ _ _ _ hc q => floordiv_int hc.1 q (.inl (PyProof.noPylong_of_log2 hc.2))
theorem opBI {f : Value → Value → Sem Value} {pins : List (Addr × Obj)} {s : Shared} {σ : L2.St} {H : Hp} {v u : Value} {b : Bool} {j k : Int} {Q : VK}
    (rule : ∀ (t : Tok) (Q : Value → Shared → Prop), Q (.int k s.toks) { s with toks := s.toks + 1 } → wpAny (model X.prog X.w) X.A (f (.bool b) (.int j t)) Q X.xe s)
    (I : Inv X pins σ H s) (rx : RelV (.bl b) v) (ry : RelV (.int j) u) (q : Q (.int k) H) : wpAny (model X.prog X.w) X.A (f v u) (EP X pins σ Q) X.xe s := by
  cases rx
  obtain ⟨t, rfl⟩ := ry
  exact rule t _ ⟨.int k, H, I.tok _, ⟨_, rfl⟩, q⟩
theorem opIB {f : Value → Value → Sem Value} {pins : List (Addr × Obj)} {s : Shared} {σ : L2.St} {H : Hp} {v u : Value} {b : Bool} {j k : Int} {Q : VK}
    (rule : ∀ (t : Tok) (Q : Value → Shared → Prop), Q (.int k s.toks) { s with toks := s.toks + 1 } → wpAny (model X.prog X.w) X.A (f (.int j t) (.bool b)) Q X.xe s)
    (I : Inv X pins σ H s) (rx : RelV (.int j) v) (ry : RelV (.bl b) u) (q : Q (.int k) H) : wpAny (model X.prog X.w) X.A (f v u) (EP X pins σ Q) X.xe s := by
  cases ry
  obtain ⟨t, rfl⟩ := rx
  exact rule t _ ⟨.int k, H, I.tok _, ⟨_, rfl⟩, q⟩
theorem opD_add : OpR X (binaryOp .Add) (rB X.K (binD .Add)) := by
  intro pins s σ H x y v u Q I rx ry h
  obtain ⟨A, M, dx, dy, Qd, hx, hy, hm, hb, hl⟩ := h
  cases hx <;> cases hy <;> first | exact False.elim hb | skip
  · exact opBI (fun t Q h => PySem.IntBool.add_bool_int h) I rx ry (hl.int hm hb)
  · exact op_add pins s σ H _ _ v u Q I rx ry ⟨_, _, rfl, rfl, hl.int hm hb⟩
  · exact op_add_str pins s σ H _ _ v u Q I rx ry ⟨_, _, rfl, rfl, hb.1, hl.now hm (.str _) hb.2⟩
  · rename_i a vs ds ha la b ws es hb' lb
    obtain ⟨hz, q⟩ := hb
    have e1 := la.length
    have e2 := lb.length
    refine op_catA pins s σ H _ _ v u Q I rx ry ⟨_, _, vs, ws, rfl, rfl, ha.sq, hb'.sq, by omega, fun e => ?_, fun e1 e => ?_, fun e1 e2 p hp => ?_⟩
    · subst e
      cases la
      exact hl.now hm (.tup hb' lb) q
    · subst e
      cases lb
      rw [List.append_nil] at q
      exact hl.now hm (.tup ha la) q
    · exact hl.newT hm (la.append lb) q p hp
  · rename_i a n ha hka b k hb' hkb
    obtain ⟨xs, ex, hb⟩ := onV_ex hb
    obtain ⟨ys, ey, hz, q⟩ := onV_ex hb
    obtain ⟨vs, h1, l1⟩ := hm.list ha hka ex
    obtain ⟨ws, h2, l2⟩ := hm.list hb' hkb ey
    exact op_cat pins s σ H _ _ v u Q I rx ry ⟨_, _, vs, ws, rfl, rfl, h1, h2, by rw [l1.length, l2.length]; exact hz, fun p hp => hl.newL hm (l1.append l2) q p hp⟩
theorem opD_bin (op : Operator) : OpR X (binaryOp op) (rB X.K (binD op)) := by
  by_cases ha : op = .Add
  · subst ha; exact opD_add
  intro pins s σ H x y v u Q I rx ry h
  obtain ⟨A, M, dx, dy, Qd, hx, hy, hm, hb, hl⟩ := h
  cases hx <;> cases hy <;> cases op <;> first | exact False.elim hb | exact (ha rfl).elim | skip
  · exact opBI (fun t Q h => PySem.IntBool.sub_bool_int h) I rx ry (hl.int hm hb)
  · exact opBI (fun t Q h => PySem.IsLeap.wpAny_mod_bool hb.1 h) I rx ry (hl.int hm hb.2)
  · exact opIB (fun t Q h => PySem.IntBool.sub_int_bool h) I rx ry (hl.int hm hb)
  · exact opIB (fun t Q h => PySem.IntBool.mul_int_bool h) I rx ry (hl.int hm hb)
  · exact op_sub pins s σ H _ _ v u Q I rx ry ⟨_, _, rfl, rfl, hl.int hm hb⟩
  · exact op_mulW pins s σ H _ _ v u Q I rx ry ⟨_, _, rfl, rfl, hb.1, hl.int hm hb.2⟩
  · exact op_modN pins s σ H _ _ v u Q I rx ry ⟨_, _, rfl, rfl, hb.1, hl.int hm hb.2⟩
  · exact op_pow pins s σ H _ _ v u Q I rx ry ⟨_, _, rfl, rfl, ⟨hb.1, hb.2.1, hb.2.2.1⟩, hl.int hm hb.2.2.2⟩
  · exact op_fdivD pins s σ H _ _ v u Q I rx ry ⟨_, _, rfl, rfl, ⟨hb.1, hb.2.1⟩, hl.int hm hb.2.2⟩

theorem opD_eq0 (hu : X.A.units + 64 < cLine) {x y : D} {M : Mem} {R : Bool → Prop} (h : eqD x y M R) : (∃ a b, x = .str a ∧ y = .str b ∧ R (decide (a = b))) ∨ isOk M x y R := by
  unfold eqD at h
  split at h
  · refine .inr ⟨_, _, .int _, .int _, by simp [SeqAt.shaped, PyData.canLay0, PyData.depth], by simp [SeqAt.shaped, PyData.canLay0, PyData.depth], ?_⟩
    rename_i i j
    have e : PyData.eqv (.int i) (.int j) = decide (i = j) := by simp only [PyData.eqv]; rfl
    rw [e]; exact h
  · refine .inr ⟨_, _, .bl _, .bl _, by rename_i i j; cases i <;> decide, by rename_i i j; cases j <;> decide, ?_⟩
    rename_i i j
    have e : PyData.eqv (.bool i) (.bool j) = decide (i = j) := by simp only [PyData.eqv]; rfl
    rw [e]; exact h
  · exact .inr ⟨_, _, .non, .non, by decide, by decide, h⟩
  · exact .inl ⟨_, _, rfl, rfl, h⟩
  · exact .inr h
theorem dec_strV {a b : Str} : decide (V.str a = V.str b) = decide (a = b) := by
  by_cases h : a = b
  · subst h; simp
  · simp [h]
theorem opD_eq (hu : X.A.units + 64 < cLine) : OpR X (compareOp .Eq) (rB X.K (cmpD .Eq)) := by
  intro pins s σ H x y v u Q I rx ry h
  obtain ⟨A, M, dx, dy, Qd, hx, hy, hm, hb, hl⟩ := h
  rcases opD_eq0 hu (show eqD dx dy M (fun b => Qd (.bl b) M) from hb) with ⟨a, b, rfl, rfl, hq⟩ | ⟨p, q, h1, h2, s1, s2, hq⟩
  · cases hx
    cases hy
    exact op_eq pins s σ H _ _ v u Q I rx ry ⟨rfl, by rw [dec_strV]; exact hl.bl hm hq⟩
  · exact op_eqD hu pins s σ H _ _ v u Q I rx ry ⟨p, q, h1.dp hm hx, h2.dp hm hy, s1, s2, hl.bl hm hq⟩
theorem opD_ne (hu : X.A.units + 64 < cLine) : OpR X (compareOp .NotEq) (rB X.K (cmpD .NotEq)) := by
  intro pins s σ H x y v u Q I rx ry h
  obtain ⟨A, M, dx, dy, Qd, hx, hy, hm, hb, hl⟩ := h
  rcases opD_eq0 hu (show eqD dx dy M (fun b => Qd (.bl (!b)) M) from hb) with ⟨a, b, rfl, rfl, hq⟩ | ⟨p, q, h1, h2, s1, s2, hq⟩
  · cases hx
    cases hy
    exact op_ne pins s σ H _ _ v u Q I rx ry ⟨rfl, by rw [dec_strV]; exact hl.bl hm hq⟩
  · exact op_neD hu pins s σ H _ _ v u Q I rx ry ⟨p, q, h1.dp hm hx, h2.dp hm hy, s1, s2, hl.bl hm hq⟩
theorem seq_of {K : Frg} {H : Hp} {A : List Addr} {M : Mem} (m : Rm K H A M) {v : V} {d : D} {ds : List D} (r : Rp K H A v d) (h : seqOf M d = some ds) :
    ∃ a vs, v = .ref a ∧ RpL K H A vs ds ∧ (SqL K H a vs ∨ TkA K H a vs) := by
  cases r with
  | lst ha hka =>
    obtain ⟨vs, h1, l1⟩ := m.list ha hka h
    exact ⟨_, vs, rfl, l1, .inl (SqL.of h1)⟩
  | tup ha la =>
    cases h
    exact ⟨_, _, rfl, la, .inr ha⟩
  | scr ha =>
    cases h
    exact ⟨_, _, rfl, RpL.ints _, .inl ha.seq⟩
  | _ => cases h
/-- > of two pairs of whole numbers -/
theorem op_gtP (hu : X.A.units < cLine) : OpR X (compareOp .Gt) (fun x y H Q => ∃ (a b : Addr) (p q r t : Int), x = .ref a ∧ y = .ref b ∧ SqT X.K H a [.int p, .int q] ∧ SqT X.K H b [.int r, .int t] ∧ Q (.bl (decide (r < p ∨ (r = p ∧ t < q)))) H) := by
  rintro pins s σ H x y v u Q I rx ry ⟨a, b, p, q, r, t, rfl, rfl, ha, hb, fin⟩
  cases rx; cases ry
  obtain ⟨its, r1, p1, _⟩ := I.tuple ha
  obtain ⟨its2, r2, p2, _⟩ := I.tuple hb
  have e1 : ∃ t1 t2, its = [.int p t1, .int q t2] := by
    cases r1 with
    | cons h1 r1 => cases r1 with
      | cons h2 r1 => cases r1; obtain ⟨t1, rfl⟩ := h1; obtain ⟨t2, rfl⟩ := h2; exact ⟨t1, t2, rfl⟩
  have e2 : ∃ t1 t2, its2 = [.int r t1, .int t t2] := by
    cases r2 with
    | cons h1 r2 => cases r2 with
      | cons h2 r2 => cases r2; obtain ⟨t1, rfl⟩ := h1; obtain ⟨t2, rfl⟩ := h2; exact ⟨t1, t2, rfl⟩
  obtain ⟨t1, t2, rfl⟩ := e1
  obtain ⟨t3, t4, rfl⟩ := e2
  have same : ∀ i j : Int, (i == j) = decide (i = j) := fun i j => by by_cases h : i = j <;> simp [h]
  have R := Ob.RcOp.tuples_gt (A := X.A) (s := s) (e := fun j => if j = 0 then decide (p = r) else decide (q = t)) (r := fun j => if j = 0 then decide (r < p) else decide (t < q)) p1 p2 hu (fun j h1 h2 => by
    match j, h1 with
    | 0, _ => simp only [if_true]; rw [← same]; exact SeqAt.EqAt.int_int _ _ _ _
    | 1, _ => simp only [Nat.one_ne_zero, if_false]; rw [← same]; exact SeqAt.EqAt.int_int _ _ _ _
    | j + 2, h => simp at h; omega) (fun j h1 h2 _ => by
    match j, h1 with
    | 0, _ => exact Ob.RcOp.gt_int _ _ _ _
    | 1, _ => exact Ob.RcOp.gt_int _ _ _ _
    | j + 2, h => simp at h; omega)
  have val : Ob.lexAt (fun j => if j = 0 then decide (p = r) else decide (q = t)) (fun j => if j = 0 then decide (r < p) else decide (t < q)) (decide ([Value.int p t1, .int q t2].toArray.size > [Value.int r t3, .int t t4].toArray.size)) 0 (min [Value.int p t1, .int q t2].toArray.size [Value.int r t3, .int t t4].toArray.size) = decide (r < p ∨ (r = p ∧ t < q)) := by
    show Ob.lexAt _ _ _ 0 2 = _
    rw [Ob.lexAt_succ, Ob.lexAt_succ, Ob.lexAt_zero]
    by_cases h1 : p = r
    · subst h1
      by_cases h2 : q = t
      · subst h2; simp
      · simp [h2]
    · have h1' : ¬ r = p := fun z => h1 z.symm
      simp [h1, h1']
  rw [val] at R
  exact R X.prog X.w X.xe (EP X pins σ Q) ⟨.bl _, H, I, rfl, fin⟩
theorem gt_cases {x y : D} {M : Mem} {Q : Kn} (h : cmpD .Gt x y M Q) : (∃ i j, x = .int i ∧ y = .int j ∧ Q (.bl (decide (j < i))) M) ∨ ∃ a b c d, x = .tup [.int a, .int b] ∧ y = .tup [.int c, .int d] ∧ Q (.bl (decide (c < a ∨ (c = a ∧ d < b)))) M := by
  unfold cmpD at h
  simp only at h
  split at h
  · exact .inl ⟨_, _, rfl, rfl, h⟩
  · exact .inr ⟨_, _, _, _, rfl, rfl, h⟩
  · exact h.elim
theorem lt_cases {x y : D} {M : Mem} {Q : Kn} (h : cmpD .Lt x y M Q) : (∃ i j, x = .int i ∧ y = .int j ∧ Q (.bl (decide (i < j))) M) ∨ ∃ a b c d, x = .tup [.int a, .int b] ∧ y = .tup [.int c, .int d] ∧ Q (.bl (decide (a < c ∨ (a = c ∧ b < d)))) M := by
  unfold cmpD at h
  simp only at h
  split at h
  · exact .inl ⟨_, _, rfl, rfl, h⟩
  · exact .inr ⟨_, _, _, _, rfl, rfl, h⟩
  · exact h.elim
theorem pair_sq {K : Frg} {H : Hp} {A : List Addr} {v : V} {p q : Int} (h : Rp K H A v (.tup [.int p, .int q])) : ∃ a, v = .ref a ∧ SqT K H a [.int p, .int q] := by
  obtain ⟨a, e, h⟩ := h.key
  exact ⟨a, e, sq_tup h⟩
theorem lexLt2 (a b c d : Int) : HT.lexLt [a, b] [c, d] = decide (a < c ∨ (a = c ∧ b < d)) := by
  simp only [HT.lexLt]
  by_cases h1 : a = c
  · subst h1
    by_cases h2 : b = d
    · subst h2; simp
    · simp [h2]
  · simp [h1]
theorem opD_cmp (op : CmpOp) (hu : X.A.units + 64 < cLine) (hno : op ≠ .In ∧ op ≠ .NotIn) : OpR X (compareOp op) (rB X.K (cmpD op)) := by
  by_cases h1 : op = .Eq
  · subst h1; exact opD_eq hu
  by_cases h2 : op = .NotEq
  · subst h2; exact opD_ne hu
  by_cases h3 : op = .Is
  · subst h3
    intro pins s σ H x y v u Q I rx ry h
    obtain ⟨A, M, dx, dy, Qd, hx, hy, hm, hb, hl⟩ := h
    cases hy <;> first | (exfalso; cases hx <;> exact hb) | skip
    · have hb' : Qd (.bl (isNon dx)) M := by cases hx <;> exact hb
      refine op_isN pins s σ H _ _ v u Q I rx ry ⟨rfl, ?_⟩
      have e : isNon dx = decide (x = V.non) := by cases hx <;> simp [isNon]
      rw [← e]
      exact hl.bl hm hb'
    · cases hx <;> first | exact False.elim hb | skip
      exact op_is_bl pins s σ H _ _ v u Q I rx ry ⟨_, _, rfl, rfl, hl.bl hm hb⟩
  by_cases h4 : op = .IsNot
  · subst h4
    intro pins s σ H x y v u Q I rx ry h
    obtain ⟨A, M, dx, dy, Qd, hx, hy, hm, hb, hl⟩ := h
    cases hy <;> first | (exfalso; cases hx <;> exact hb) | skip
    · have hb' : Qd (.bl (!isNon dx)) M := by cases hx <;> exact hb
      refine op_notN pins s σ H _ _ v u Q I rx ry ⟨rfl, ?_⟩
      have e : isNon dx = decide (x = V.non) := by cases hx <;> simp [isNon]
      rw [← e]
      exact hl.bl hm hb'
    · cases hx <;> first | exact False.elim hb | skip
      exact op_isnot_bl pins s σ H _ _ v u Q I rx ry ⟨_, _, rfl, rfl, hl.bl hm hb⟩
  intro pins s σ H x y v u Q I rx ry h
  obtain ⟨A, M, dx, dy, Qd, hx, hy, hm, hb, hl⟩ := h
  cases op <;> first | exact (h1 rfl).elim | exact (h2 rfl).elim | exact (h3 rfl).elim | exact (h4 rfl).elim | exact (hno.1 rfl).elim | exact (hno.2 rfl).elim | skip
  · rcases lt_cases hb with ⟨i, j, rfl, rfl, q⟩ | ⟨a, b, c, d, rfl, rfl, q⟩
    · cases hx; cases hy
      exact op_lt pins s σ H _ _ v u Q I rx ry ⟨_, _, rfl, rfl, hl.bl hm q⟩
    · obtain ⟨p1, rfl, t1⟩ := pair_sq hx
      obtain ⟨p2, rfl, t2⟩ := pair_sq hy
      exact op_ltT (by omega) pins s σ H _ _ v u Q I rx ry ⟨p1, p2, [a, b], [c, d], rfl, rfl, t1, t2, by rw [lexLt2]; exact hl.bl hm q⟩
  · cases hx <;> cases hy <;> first | exact False.elim hb | skip
    exact op_le pins s σ H _ _ v u Q I rx ry ⟨_, _, rfl, rfl, hl.bl hm hb⟩
  · rcases gt_cases hb with ⟨i, j, rfl, rfl, q⟩ | ⟨a, b, c, d, rfl, rfl, q⟩
    · cases hx; cases hy
      exact op_gt pins s σ H _ _ v u Q I rx ry ⟨_, _, rfl, rfl, hl.bl hm q⟩
    · obtain ⟨p1, rfl, t1⟩ := pair_sq hx
      obtain ⟨p2, rfl, t2⟩ := pair_sq hy
      exact op_gtP (by omega) pins s σ H _ _ v u Q I rx ry ⟨p1, p2, a, b, c, d, rfl, rfl, t1, t2, hl.bl hm q⟩
  · cases hx <;> cases hy <;> first | exact False.elim hb | skip
    exact op_ge pins s σ H _ _ v u Q I rx ry ⟨_, _, rfl, rfl, hl.bl hm hb⟩

def rInT (K : Frg) (b : Bool) : R2 := fun x y H Q => ∃ d ds, Dp K H x d ∧ Dp K H y (.tuple ds) ∧ SeqAt.shaped d = true ∧ SeqAt.shaped (.list ds) = true ∧ Q (.bl (xor b (ds.any fun z => PyData.eqv z d))) H
theorem op_inT (hu : X.A.units + 65 < cLine) : OpR X (compareOp .In) (rInT X.K false) := by
  intro pins s σ H x y v u Q I rx ry h
  obtain ⟨d, ds, hd, he, sd, se, q⟩ := h
  obtain ⟨as, r1⟩ := Dp.reads I d x v hd rx
  obtain ⟨bs, r2⟩ := Dp.reads I (.tuple ds) y u he ry
  exact SeqAt.in_tuple_reads r2 r1 (SeqAt.canLay_of_shaped se) (SeqAt.canLay_of_shaped sd) (room_in_shaped sd hu) ⟨.bl _, H, I, rfl, by simpa using q⟩
theorem op_notInT (hu : X.A.units + 65 < cLine) : OpR X (compareOp .NotIn) (rInT X.K true) := by
  intro pins s σ H x y v u Q I rx ry h
  obtain ⟨d, ds, hd, he, sd, se, q⟩ := h
  obtain ⟨as, r1⟩ := Dp.reads I d x v hd rx
  obtain ⟨bs, r2⟩ := Dp.reads I (.tuple ds) y u he ry
  exact SeqAt.notIn_tuple_reads r2 r1 (SeqAt.canLay_of_shaped se) (SeqAt.canLay_of_shaped sd) (room_in_shaped sd hu) ⟨.bl _, H, I, rfl, by simpa using q⟩
theorem seq_dp {K : Frg} {H : Hp} {A : List Addr} {M : Mem} (m : Rm K H A M) {v : V} {d : D} {ds : List D} {ps : List PyData} (r : Rp K H A v d) (h : seqOf M d = some ds) (hp : PDL M ds ps) : Dp K H v (.list ps) ∨ Dp K H v (.tuple ps) := by
  cases r with
  | lst ha hka =>
    obtain ⟨vs, h1, l1⟩ := m.list ha hka h
    exact .inl (.lst (SqL.of h1) (hp.dp m l1))
  | tup ha la =>
    cases h
    exact .inr (.tup ha.sq (hp.dp m la))
  | scr ha =>
    cases h
    exact .inl (.lst ha.seq (hp.dp m (RpL.ints _)))
  | _ => cases h
theorem valP_cons (p : Int × Int) (d : D) (ls : Tab) (k : Int × Int) : valP ((p, d) :: ls) k = if p = k then some d else valP ls k := by
  unfold valP
  rw [List.find?_cons]
  by_cases e : p = k
  · simp [e]
  · simp [e]
theorem keyP_inj {p q : Int × Int} : keyP p = keyP q ↔ p = q := by
  unfold keyP
  constructor
  · intro h
    simp only [List.cons.injEq, Sum.inl.injEq, and_true] at h
    exact Prod.ext h.1 h.2
  · intro h; rw [h]
theorem KvR.val {K : Frg} {H : Hp} {A : List Addr} (k : Int × Int) : ∀ {kvs : List (List L2.Key × V)} {ls : Tab}, KvR K H A kvs ls → (∀ d, valP ls k = some d → ∃ v, valV kvs (keyP k) = some v ∧ Rp K H A v d) ∧ (valP ls k = none → valV kvs (keyP k) = none)
  | _, _, .nil => ⟨fun d h => by simp [valP] at h, fun _ => rfl⟩
  | _, _, .cons (p := p) (v := v) (d := d') h l => by
    obtain ⟨i1, i2⟩ := KvR.val k l
    rw [valP_cons]
    by_cases e : p = k
    · rw [if_pos e, valV_pos (show (keyP p, v).1 = keyP k from keyP_inj.mpr e)]
      exact ⟨fun d hd => by cases hd; exact ⟨_, rfl, h⟩, fun z => by cases z⟩
    · rw [if_neg e, valV_neg (show ¬ (keyP p, v).1 = keyP k from fun z => e (keyP_inj.mp z))]
      exact ⟨i1, i2⟩
theorem opD_cmpA (op : CmpOp) (hu : X.A.units + 65 < cLine) : OpR X (compareOp op) (rB X.K (cmpD op)) := by
  have dct : ∀ {K : Frg} {H : Hp} {A : List Addr} {M : Mem} {x y : V} {dx dy : D} {R : Bool → Prop}, Rm K H A M → Rp K H A x dx → Rp K H A y dy → inD dx dy M R →
      (∃ a o, y = .ref a ∧ DGet H a x o ∧ R o.isSome) ∨ ∃ xs p ps, seqOf M dy = some xs ∧ PD M dx p ∧ PDL M xs ps ∧ SeqAt.shaped p = true ∧ SeqAt.shaped (.list ps) = true ∧ R (ps.any fun z => PyData.eqv z p) := by
    intro K H A M x y dx dy R hm hx hy h
    cases dy with
    | dct n =>
      obtain ⟨ls, p, q, rfl, e, r⟩ := h
      obtain ⟨b, rfl, hb⟩ := hx.key
      cases hy with
      | dct ha hk =>
        obtain ⟨kvs, hd, kr⟩ := hm.dict ha e
        refine .inl ⟨_, _, rfl, DGet.t (k := keyP (p, q)) hd hb, ?_⟩
        have i := kr.val (p, q)
        cases ev : valP ls (p, q) with
        | some d =>
          obtain ⟨w, hw, _⟩ := i.1 d ev
          rw [ev] at r
          show R (valV kvs (keyP (p, q))).isSome
          rw [hw]; exact r
        | none =>
          rw [ev] at r
          show R (valV kvs (keyP (p, q))).isSome
          rw [i.2 ev]; exact r
    | _ => exact .inr h
  by_cases h1 : op = .In
  · subst h1
    intro pins s σ H x y v u Q I rx ry h
    obtain ⟨A, M, dx, dy, Qd, hx, hy, hm, hin, hl⟩ := h
    rcases dct (R := fun b => Qd (.bl b) M) hm hx hy hin with ⟨a, o, rfl, g, q⟩ | ⟨xs, p, ps, e, hp, hps, s1, s2, q⟩
    · cases (show u = Value.ref a from ry)
      exact d_in (by omega) I g rx fun s3 I3 => ⟨.bl o.isSome, H, I3, rfl, hl.bl hm q⟩
    rcases seq_dp hm hy e hps with hd | hd
    · exact op_inD hu pins s σ H _ _ v u Q I rx ry ⟨p, ps, hp.dp hm hx, hd, s1, s2, hl.bl hm q⟩
    · exact op_inT hu pins s σ H _ _ v u Q I rx ry ⟨p, ps, hp.dp hm hx, hd, s1, s2, by simpa using hl.bl hm q⟩
  by_cases h2 : op = .NotIn
  · subst h2
    intro pins s σ H x y v u Q I rx ry h
    obtain ⟨A, M, dx, dy, Qd, hx, hy, hm, hin, hl⟩ := h
    rcases dct (R := fun b => Qd (.bl (!b)) M) hm hx hy hin with ⟨a, o, rfl, g, q⟩ | ⟨xs, p, ps, e, hp, hps, s1, s2, q⟩
    · cases (show u = Value.ref a from ry)
      exact d_notIn (by omega) I g rx fun s3 I3 => ⟨.bl (!o.isSome), H, I3, rfl, hl.bl hm q⟩
    rcases seq_dp hm hy e hps with hd | hd
    · exact op_notInD hu pins s σ H _ _ v u Q I rx ry ⟨p, ps, hp.dp hm hx, hd, s1, s2, hl.bl hm q⟩
    · exact op_notInT hu pins s σ H _ _ v u Q I rx ry ⟨p, ps, hp.dp hm hx, hd, s1, s2, by simpa using hl.bl hm q⟩
  exact opD_cmp op (by omega) ⟨h1, h2⟩
/-! items, slices -/
/-- d[k] -/
theorem ix_dict (hu : X.A.units + 1 < cLine) : IxR X (fun x y H Q => ∃ a v, x = .ref a ∧ DGet H a y (some v) ∧ Q v H) := by
  intro value slice pins s σ H x y v u Q I rx ry h hs
  obtain ⟨a, z, rfl, g, q⟩ := h
  cases rx
  exact tail_any (dict_typeIs I g) PySem.F.slot_dict_getitem.lookup (d_getItem hu I g ry fun w' s' I' r' => ⟨z, H, I', r', q⟩) hs
theorem ixD_ok (hu : X.A.units + 1 < cLine) : IxR X (rB X.K ixD) := by
  intro value slice pins s σ H x y v u Q I rx ry h hs
  obtain ⟨A, M, dx, dy, Qd, hx, hy, hm, hb, hl⟩ := h
  have key : (∃ k, dy = .int k) ∨ ∃ a b, dy = .tup [.int a, .int b] := by
    unfold ixD at hb
    split at hb
    · exact .inl ⟨_, rfl⟩
    · exact .inr ⟨_, _, rfl⟩
    · exact hb.elim
  rcases key with ⟨k, rfl⟩ | ⟨p, q', rfl⟩
  · cases hy
    obtain ⟨xs, hq, hb⟩ := onV_ex hb
    obtain ⟨d, hd0, q⟩ := onV_ex hb
    obtain ⟨j, hj, hd⟩ := Option.bind_eq_some_iff.mp hd0
    obtain ⟨a, vs, rfl, la, hsq⟩ := seq_of hm hx hq
    obtain ⟨w, hw, rw'⟩ := la.get hd
    have hat : atI vs k = some w := by
      unfold atI
      rw [la.length, hj]
      exact hw
    rcases hsq with hsq | hsq
    · exact ix_list value slice pins s σ H _ _ v u Q I rx ry ⟨a, vs, k, w, rfl, rfl, hsq, hat, hl.now hm rw' q⟩ hs
    · exact ix_tup value slice pins s σ H _ _ v u Q I rx ry ⟨a, vs, k, w, rfl, rfl, hsq.sq, hat, hl.now hm rw' q⟩ hs
  · obtain ⟨b, rfl, hb'⟩ := hy.key
    obtain ⟨n, ls, d, rfl, e, hv, q⟩ := hb
    cases hx with
    | dct ha hk =>
      rcases e with e | e
      · obtain ⟨kvs, hd, r⟩ := hm.dict ha e
        obtain ⟨w, hw, rw'⟩ := (r.val (p, q')).1 d hv
        refine ix_dict hu value slice pins s σ H _ _ v u Q I rx ry ⟨_, w, rfl, ?_, hl.now hm rw' q⟩ hs
        rw [← hw]
        exact DGet.t hd hb'
      · obtain ⟨o, kvs, hd, r⟩ := hm.dictF ha e
        obtain ⟨w, hw, rw'⟩ := (r.val (p, q')).1 d hv
        refine ix_dict hu value slice pins s σ H _ _ v u Q I rx ry ⟨_, w, rfl, ?_, hl.now hm rw' q⟩ hs
        rw [← hw]
        exact .inr ⟨kvs, keyP (p, q'), _, .inr ⟨o, hd⟩, rfl, hb', rfl⟩
theorem RpL.cut {K : Frg} {H : Hp} {A : List Addr} {vs : List V} {ds : List D} (l : RpL K H A vs ds) (lo hi : Option Int) : RpL K H A (cutV vs lo hi) (cutD ds lo hi) := by
  unfold cutV cutD
  rw [l.length]
  exact (l.drop _).take _
def rSl (K : Frg) : V → Option Int → Option Int → Hp → VK → Prop := fun x lo hi H κ => ∃ A M d Q, Rp K H A x d ∧ Rm K H A M ∧ slD d lo hi M Q ∧ Lf K H A Q κ
theorem slD_ok : SlR X (rSl X.K) := by
  intro pins s σ H x v vl vu lo hi sl Q I rx hs pl pu h
  obtain ⟨A, M, dx, Qd, hx, hm, hb, hl⟩ := h
  cases hx <;> first | exact False.elim hb | skip
  · rename_i a vs ds ha la
    refine sl_tupA pins s σ H _ v vl vu lo hi sl Q I rx hs pl pu ⟨a, vs, rfl, ha.sq, fun hw => ?_, fun hw p hp => hl.newT hm (la.cut lo hi) hb p hp⟩
    have e : cutD ds lo hi = ds := by
      unfold cutD
      rw [la.length] at hw
      rw [hw.1, hw.2]
      simp
    have hb' : Qd (.tup (cutD ds lo hi)) M := hb
    rw [e] at hb'
    exact hl.now hm (.tup ha la) hb'
  · rename_i a n ha hka
    obtain ⟨xs, ex, q⟩ := onV_ex hb
    obtain ⟨vs, h1, l1⟩ := hm.list ha hka ex
    exact sl_list pins s σ H _ v vl vu lo hi sl Q I rx hs pl pu ⟨a, vs, rfl, SqL.of h1, fun p hp => hl.newL hm (l1.cut lo hi) q p hp⟩
  · rename_i a ns ha
    exact sl_list pins s σ H _ v vl vu lo hi sl Q I rx hs pl pu ⟨a, _, rfl, ha.seq, fun p hp => hl.newL hm ((RpL.ints ns).cut lo hi) hb p hp⟩

/-! isinstance -/
theorem ty_of {K : Frg} {H : Hp} {A : List Addr} {M : Mem} (m : Rm K H A M) {v : V} {d : D} (r : Rp K H A v d) {t : String} (h : tyD d = some t) : TyX K H v (.type t) := by
  cases r with
  | non => cases h; exact .base .non
  | bl x => cases h; exact .base (.bl x)
  | int i => cases h; exact .base (.int i)
  | str x => cases h; exact .base (.str x)
  | tup ha _ =>
    cases h
    rcases ha.sq with (ha | ⟨o, ha⟩) | ⟨o, its, n, e, c, _⟩
    · exact .base (.tup ha)
    · exact .fTuple ha
    · exact .kTuple e c
  | lst ha hka =>
    cases h
    obtain ⟨vs, e⟩ := hka
    exact .base (.lst e)
  | dct _ _ => cases h
  | scr _ => cases h
  | exc _ _ _ _ _ => cases h
def tyNames : List String := ["NoneType", "bool", "int", "str", "tuple", "list"]
def clNames : List String := ["bool", "int", "str", "tuple", "list"]
theorem tyD_in {d : D} {t : String} (h : tyD d = some t) : t ∈ tyNames := by
  cases d <;> simp only [tyD, Option.some.injEq] at h <;> first | (subst h; decide) | cases h
theorem kit_ok (K : Frg) {t c : String} (ht : t ∈ tyNames) (hc : c ∈ clNames) : PySem.W.kitOne K (.type t) (.type c) = some (isIn t c) := by
  simp only [tyNames, clNames, List.mem_cons, List.not_mem_nil, or_false] at ht hc
  rcases ht with rfl | rfl | rfl | rfl | rfl | rfl <;> rcases hc with rfl | rfl | rfl | rfl | rfl <;> rfl
theorem kitAny_ok (K : Frg) {t : String} (ht : t ∈ tyNames) : ∀ (T : List String), (∀ c ∈ T, c ∈ clNames) → PySem.W.kitAny K (.type t) (T.map Value.type) = some (T.any (isIn t))
  | [], _ => rfl
  | c :: r, h => by
    rw [List.map_cons]
    unfold PySem.W.kitAny
    rw [kit_ok K ht (h c List.mem_cons_self), List.any_cons]
    cases isIn t c with
    | true => rfl
    | false =>
      rw [Bool.false_or]
      exact kitAny_ok K ht r fun c hc => h c (List.mem_cons_of_mem _ hc)
/-- isinstance of a value and one class's name -/
def rI1 (K : Frg) : List V → Hp → VK → Prop := fun xs H κ => ∃ A M d v T b Q, xs = [v, .ty T] ∧ T ∈ clNames ∧ Rp K H A v d ∧ Rm K H A M ∧ isiD [T] d = some b ∧ Q (.bl b) M ∧ Lf K H A Q κ
theorem isiD_ok : CallR X (.builtin "isinstance") (rI1 X.K) := by
  intro pins s σ H xs us Q I r h
  obtain ⟨A, M, d, v, T, b, Qd, rfl, hT, hx, hm, hb, q, hl⟩ := h
  unfold isiD at hb
  cases e : tyD d with
  | none => rw [e] at hb; cases hb
  | some t =>
    rw [e] at hb
    have hb' : [T].any (isIn t) = b := Option.some.inj hb
    subst hb'
    refine call_isi pins s σ H _ us Q I r ⟨v, .ty T, .type t, .type T, _, rfl, .ty T, ty_of hm hx e, kit_ok X.K (tyD_in e) hT, ?_⟩
    have e2 : [T].any (isIn t) = isIn t T := by simp
    rw [← e2]
    exact hl.bl hm q
theorem clsV_map : ∀ T : List String, Paired ClsV (T.map V.ty) (T.map Value.type)
  | [] => .nil
  | _ :: r => .cons (.ty _) (clsV_map r)
def rI2 (K : Frg) (T : List String) : List V → Hp → VK → Prop := fun xs H κ => ∃ A M d v tp b Q, xs = [v, .ref tp] ∧ H tp = some (.tup (T.map V.ty)) ∧ (∀ c ∈ T, c ∈ clNames) ∧ Rp K H A v d ∧ Rm K H A M ∧ isiD T d = some b ∧ Q (.bl b) M ∧ Lf K H A Q κ
theorem isiT_ok {T : List String} : CallR X (.builtin "isinstance") (rI2 X.K T) := by
  intro pins s σ H xs us Q I r h
  obtain ⟨A, M, d, v, tp, b, Qd, rfl, htp, hT, hx, hm, hb, q, hl⟩ := h
  unfold isiD at hb
  cases e : tyD d with
  | none => rw [e] at hb; cases hb
  | some t =>
    rw [e] at hb
    have hb' : T.any (isIn t) = b := Option.some.inj hb
    subst hb'
    exact call_isiT pins s σ H _ us Q I r ⟨v, tp, T.map V.ty, .type t, T.map Value.type, _, rfl, htp, clsV_map T, ty_of hm hx e, kitAny_ok X.K (tyD_in e) T hT, hl.bl hm q⟩

/-! built-in functions -/
def rC (K : Frg) (f : List D → Mem → Kn → Prop) : List V → Hp → VK → Prop := fun xs H κ => ∃ A M ds Q, RpL K H A xs ds ∧ Rm K H A M ∧ f ds M Q ∧ Lf K H A Q κ
theorem CallR.imp {f : Value} {r r' : List V → Hp → VK → Prop} (h : CallR X f r) (hi : ∀ xs H Q, r' xs H Q → r xs H Q) : CallR X f r' := fun pins s σ H xs us Q I r q => h pins s σ H xs us Q I r (hi _ _ _ q)
theorem CallR.two {f : Value} {r r' q : List V → Hp → VK → Prop} (h : CallR X f r) (h' : CallR X f r') (hi : ∀ xs H Q, q xs H Q → r xs H Q ∨ r' xs H Q) : CallR X f q := fun pins s σ H xs us Q I r z => by
  rcases hi _ _ _ z with z | z
  · exact h pins s σ H xs us Q I r z
  · exact h' pins s σ H xs us Q I r z
theorem bf_len : CallR X (.builtin "len") (rC X.K (bfD .len)) := by
  intro pins s σ H xs us Q I r h
  obtain ⟨A, M, ds, Qd, hx, hm, hb, hl⟩ := h
  cases hx with
  | nil => exact False.elim hb
  | @cons v vs d ds' hv l =>
    cases l with
    | cons _ _ => exact False.elim hb
    | nil =>
      have key : (∃ z, d = .str z ∧ z.length ≤ sizeLine ∧ Qd (.int z.length) M) ∨ ∃ ys, seqOf M d = some ys ∧ Qd (.int ys.length) M := by
        cases d with
        | str z => exact .inl ⟨z, rfl, hb⟩
        | _ => exact .inr (onV_ex hb)
      rcases key with ⟨z, rfl, hz, q⟩ | ⟨ys, hy, q⟩
      · cases hv
        exact call_len pins s σ H _ us Q I r ⟨_, z.length, rfl, ⟨hz, rfl⟩, hl.int hm q⟩
      · obtain ⟨a, ws, rfl, la, hs⟩ := seq_of hm hv hy
        refine call_len pins s σ H _ us Q I r ⟨_, ys.length, rfl, ?_, hl.int hm q⟩
        rcases hs with hs | hs
        · exact .inl ⟨ws, hs, la.length.symm⟩
        · exact .inr ⟨ws, hs.sq, la.length.symm⟩
theorem RpL.one {K : Frg} {H : Hp} {A : List Addr} {vs : List V} {d : D} (l : RpL K H A vs [d]) : ∃ v, vs = [v] ∧ Rp K H A v d := by
  cases l with
  | cons h l => cases l; exact ⟨_, rfl, h⟩
theorem RpL.two {K : Frg} {H : Hp} {A : List Addr} {vs : List V} {d e : D} (l : RpL K H A vs [d, e]) : ∃ v w, vs = [v, w] ∧ Rp K H A v d ∧ Rp K H A w e := by
  cases l with
  | cons h l =>
    obtain ⟨w, rfl, h2⟩ := l.one
    exact ⟨_, _, rfl, h, h2⟩
theorem bf_abs : CallR X (.builtin "abs") (rC X.K (bfD .abs)) := by
  intro pins s σ H xs us Q I r h
  obtain ⟨A, M, ds, Qd, hx, hm, hb, hl⟩ := h
  obtain ⟨d, rfl⟩ : ∃ d, ds = [.int d] := by
    cases hx with
    | nil => exact False.elim hb
    | cons hv l => cases l with
      | nil => cases hv <;> first | exact False.elim hb | exact ⟨_, rfl⟩
      | cons _ _ => cases hv <;> exact False.elim hb
  obtain ⟨v, rfl, h1⟩ := hx.one
  cases h1
  exact call_abs pins s σ H _ us Q I r ⟨_, rfl, hl.int hm hb⟩
theorem intL_of {K : Frg} {H : Hp} {A : List Addr} {M : Mem} (m : Rm K H A M) {v : V} {n : Nat} {ns : List Int} (r : Rp K H A v (.lst n)) (e : M[n]? = some (ns.map D.int)) : ∃ a, v = .ref a ∧ SqL K H a (ns.map V.int) := by
  cases r with
  | lst ha hka =>
    obtain ⟨vs, h1, l1⟩ := m.list ha hka e
    rw [l1.of_ints] at h1
    exact ⟨_, rfl, SqL.of h1⟩
theorem blL_of {K : Frg} {H : Hp} {A : List Addr} {M : Mem} (m : Rm K H A M) {v : V} {n : Nat} {ns : List Bool} (r : Rp K H A v (.lst n)) (e : M[n]? = some (ns.map D.bl)) : ∃ a, v = .ref a ∧ SqL K H a (ns.map V.bl) := by
  cases r with
  | lst ha hka =>
    obtain ⟨vs, h1, l1⟩ := m.list ha hka e
    rw [l1.of_bls] at h1
    exact ⟨_, rfl, SqL.of h1⟩
theorem vals3' {x y z : V} {us : List Value} (r : Vals [x, y, z] us) : ∃ u w' t', us = [u, w', t'] ∧ RelV x u ∧ RelV y w' ∧ RelV z t' := by
  cases r with
  | cons r1 r => cases r with
    | cons r2 r => cases r with
      | cons r3 r => cases r; exact ⟨_, _, _, rfl, r1, r2, r3⟩
theorem call_max3i (hc : X.calm = true) : CallR X (.builtin "max") (fun xs H Q => ∃ i j k, xs = [.int i, .int j, .int k] ∧ Q (.int (if k > (if j > i then j else i) then k else (if j > i then j else i))) H) := by
  intro pins s σ H xs us Q I r h
  obtain ⟨i, j, k, rfl, q⟩ := h
  obtain ⟨u, w', t', rfl, ⟨t1, rfl⟩, ⟨t2, rfl⟩, ⟨t3, rfl⟩⟩ := vals3' r
  refine max_three_ints (I.ok.hd hc) fun h' tk kk => ⟨_, H, I.kept kk, ?_, q⟩
  by_cases hj : j > i
  · simp only [if_pos hj]
    by_cases hk : k > j
    · rw [if_pos hk, if_pos hk]; exact ⟨_, rfl⟩
    · rw [if_neg hk, if_neg hk]; exact ⟨_, rfl⟩
  · simp only [if_neg hj]
    by_cases hk : k > i
    · rw [if_pos hk, if_pos hk]; exact ⟨_, rfl⟩
    · rw [if_neg hk, if_neg hk]; exact ⟨_, rfl⟩
theorem bf_max (hc : X.calm = true) : CallR X (.builtin "max") (rC X.K (bfD .max)) := by
  intro pins s σ H xs us Q I r h
  obtain ⟨A, M, ds, Qd, hx, hm, hb, hl⟩ := h
  have key : (∃ i j, ds = [.int i, .int j]) ∨ (∃ n, ds = [.lst n]) ∨ ∃ i j k, ds = [.int i, .int j, .int k] := by
    cases hx with
    | nil => exact False.elim hb
    | cons hv l => cases l with
      | nil => cases hv <;> first | exact False.elim hb | exact .inr (.inl ⟨_, rfl⟩)
      | cons hw l2 => cases l2 with
        | nil => cases hv <;> cases hw <;> first | exact False.elim hb | exact .inl ⟨_, _, rfl⟩
        | cons hu l3 => cases l3 with
          | nil => cases hv <;> cases hw <;> first | exact False.elim hb | (cases hu <;> first | exact False.elim hb | exact .inr (.inr ⟨_, _, _, rfl⟩))
          | cons _ _ => cases hv <;> cases hw <;> first | exact False.elim hb | (cases hu <;> exact False.elim hb)
  rcases key with ⟨i, j, rfl⟩ | ⟨n, rfl⟩ | ⟨i, j, k, rfl⟩
  · obtain ⟨v, w, rfl, h1, h2⟩ := hx.two
    cases h1; cases h2
    exact call_max2 hc pins s σ H _ us Q I r ⟨_, _, rfl, hl.int hm hb⟩
  · obtain ⟨v, rfl, h1⟩ := hx.one
    obtain ⟨ns, e, hp, q⟩ := hb
    obtain ⟨a, rfl, hs⟩ := intL_of hm h1 e
    exact cr_max hc pins s σ H _ us Q I r ⟨a, ns, rfl, hs, hp, fun m h1 h2 => hl.int hm (q m h1 h2)⟩
  · cases hx with
    | cons h1 l => cases l with
      | cons h2 l2 => cases l2 with
        | cons h3 l3 =>
          cases l3; cases h1; cases h2; cases h3
          exact call_max3i hc pins s σ H _ us Q I r ⟨_, _, _, rfl, hl.int hm hb⟩
theorem bf_min (hc : X.calm = true) : CallR X (.builtin "min") (rC X.K (bfD .min)) := by
  intro pins s σ H xs us Q I r h
  obtain ⟨A, M, ds, Qd, hx, hm, hb, hl⟩ := h
  have key : (∃ i j, ds = [.int i, .int j]) ∨ ∃ n, ds = [.lst n] := by
    cases hx with
    | nil => exact False.elim hb
    | cons hv l => cases l with
      | nil => cases hv <;> first | exact False.elim hb | exact .inr ⟨_, rfl⟩
      | cons hw l2 => cases l2 with
        | nil => cases hv <;> cases hw <;> first | exact False.elim hb | exact .inl ⟨_, _, rfl⟩
        | cons _ _ => cases hv <;> cases hw <;> exact False.elim hb
  rcases key with ⟨i, j, rfl⟩ | ⟨n, rfl⟩
  · obtain ⟨v, w, rfl, h1, h2⟩ := hx.two
    cases h1; cases h2
    exact call_min2 hc pins s σ H _ us Q I r ⟨_, _, rfl, hl.int hm hb⟩
  · obtain ⟨v, rfl, h1⟩ := hx.one
    obtain ⟨ns, e, hp, q⟩ := hb
    obtain ⟨a, rfl, hs⟩ := intL_of hm h1 e
    exact cr_min hc pins s σ H _ us Q I r ⟨a, ns, rfl, hs, hp, fun m h1 h2 => hl.int hm (q m h1 h2)⟩
theorem bf_sum (hc : X.calm = true) : CallR X (.builtin "sum") (rC X.K (bfD .sum)) := by
  intro pins s σ H xs us Q I r h
  obtain ⟨A, M, ds, Qd, hx, hm, hb, hl⟩ := h
  obtain ⟨n, rfl⟩ : ∃ n, ds = [.lst n] := by
    cases hx with
    | nil => exact False.elim hb
    | cons hv l => cases l with
      | nil => cases hv <;> first | exact False.elim hb | exact ⟨_, rfl⟩
      | cons _ _ => cases hv <;> exact False.elim hb
  obtain ⟨v, rfl, h1⟩ := hx.one
  obtain ⟨ns, e, q⟩ := hb
  obtain ⟨a, rfl, hs⟩ := intL_of hm h1 e
  exact cr_sum hc pins s σ H _ us Q I r ⟨a, ns, rfl, hs, hl.int hm q⟩
theorem bf_all (hc : X.calm = true) : CallR X (.builtin "all") (rC X.K (bfD .all)) := by
  intro pins s σ H xs us Q I r h
  obtain ⟨A, M, ds, Qd, hx, hm, hb, hl⟩ := h
  obtain ⟨n, rfl⟩ : ∃ n, ds = [.lst n] := by
    cases hx with
    | nil => exact False.elim hb
    | cons hv l => cases l with
      | nil => cases hv <;> first | exact False.elim hb | exact ⟨_, rfl⟩
      | cons _ _ => cases hv <;> exact False.elim hb
  obtain ⟨v, rfl, h1⟩ := hx.one
  obtain ⟨ns, e, q⟩ := hb
  obtain ⟨a, rfl, hs⟩ := blL_of hm h1 e
  exact cr_all hc pins s σ H _ us Q I r ⟨a, ns, rfl, hs, hl.bl hm q⟩
theorem bf_any (hc : X.calm = true) : CallR X (.builtin "any") (rC X.K (bfD .any)) := by
  intro pins s σ H xs us Q I r h
  obtain ⟨A, M, ds, Qd, hx, hm, hb, hl⟩ := h
  obtain ⟨n, rfl⟩ : ∃ n, ds = [.lst n] := by
    cases hx with
    | nil => exact False.elim hb
    | cons hv l => cases l with
      | nil => cases hv <;> first | exact False.elim hb | exact ⟨_, rfl⟩
      | cons _ _ => cases hv <;> exact False.elim hb
  obtain ⟨v, rfl, h1⟩ := hx.one
  obtain ⟨ns, e, q⟩ := hb
  obtain ⟨a, rfl, hs⟩ := blL_of hm h1 e
  exact cr_any hc pins s σ H _ us Q I r ⟨a, ns, rfl, hs, hl.bl hm q⟩
theorem bf_str : CallR X (.type "str") (rC X.K (bfD .str)) := by
  intro pins s σ H xs us Q I r h
  obtain ⟨A, M, ds, Qd, hx, hm, hb, hl⟩ := h
  obtain ⟨d, rfl⟩ : ∃ d, ds = [.int d] := by
    cases hx with
    | nil => exact False.elim hb
    | cons hv l => cases l with
      | nil => cases hv <;> first | exact False.elim hb | exact ⟨_, rfl⟩
      | cons _ _ => cases hv <;> exact False.elim hb
  obtain ⟨v, rfl, h1⟩ := hx.one
  cases h1
  exact call_str_int pins s σ H _ us Q I r ⟨_, rfl, hb.1, hl.now hm (.str _) hb.2⟩
theorem bf_int : CallR X (.type "int") (rC X.K (bfD .int)) := by
  intro pins s σ H xs us Q I r h
  obtain ⟨A, M, ds, Qd, hx, hm, hb, hl⟩ := h
  have key : (∃ i, ds = [.int i]) ∨ ∃ n, ds = [.bl n] := by
    cases hx with
    | nil => exact False.elim hb
    | cons hv l => cases l with
      | nil => cases hv <;> first | exact False.elim hb | exact .inr ⟨_, rfl⟩ | exact .inl ⟨_, rfl⟩
      | cons _ _ => cases hv <;> exact False.elim hb
  rcases key with ⟨i, rfl⟩ | ⟨n, rfl⟩
  · obtain ⟨v, rfl, h1⟩ := hx.one
    cases h1
    exact call_int1 pins s σ H _ us Q I r (.inl ⟨_, rfl, hl.int hm hb⟩)
  · obtain ⟨v, rfl, h1⟩ := hx.one
    cases h1
    exact call_int1 pins s σ H _ us Q I r (.inr ⟨_, rfl, hl.int hm hb⟩)
theorem bf_list : CallR X (.type "list") (rC X.K (bfD .list)) := by
  intro pins s σ H xs us Q I r h
  obtain ⟨A, M, ds, Qd, hx, hm, hb, hl⟩ := h
  obtain ⟨d, rfl⟩ : ∃ d, ds = [d] := by
    cases hx with
    | nil => exact False.elim hb
    | cons hv l => cases l with
      | nil => exact ⟨_, rfl⟩
      | cons _ _ => exact False.elim hb
  obtain ⟨v, rfl, h1⟩ := hx.one
  obtain ⟨ys, hy, q⟩ := onV_ex hb
  obtain ⟨a, ws, rfl, la, hs⟩ := seq_of hm h1 hy
  exact call_list_of pins s σ H _ us Q I r ⟨a, ws, rfl, hs.imp id TkA.sq, fun p hp => hl.newL hm la q p hp⟩
theorem bf_sor : CallR X (.builtin "sorted") (rC X.K (bfD .sor)) := by
  intro pins s σ H xs us Q I r h
  obtain ⟨A, M, ds, Qd, hx, hm, hb, hl⟩ := h
  obtain ⟨d, rfl⟩ : ∃ d, ds = [d] := by
    cases hx with
    | nil => exact False.elim hb
    | cons hv l => cases l with
      | nil => exact ⟨_, rfl⟩
      | cons _ _ => cases hv <;> exact False.elim hb
  obtain ⟨v, rfl, h1⟩ := hx.one
  cases h1 <;> first | exact False.elim hb | skip
  rename_i a n ha hka
  obtain ⟨ns, e, q⟩ := hb
  obtain ⟨vs, h2, l2⟩ := hm.list ha hka e
  rw [RpL.of_ints l2] at h2
  exact cr_sortedI pins s σ H _ us Q I r ⟨a, ns, rfl, SqL.of h2, fun ns' p hp hs hn => hl.newL hm (RpL.ints ns') (q ns' hp hs) p hn⟩
theorem bf_tuple : CallR X (.type "tuple") (rC X.K (bfD .tuple)) := by
  intro pins s σ H xs us Q I r h
  obtain ⟨A, M, ds, Qd, hx, hm, hb, hl⟩ := h
  obtain ⟨d, rfl⟩ : ∃ d, ds = [d] := by
    cases hx with
    | nil => exact False.elim hb
    | cons hv l => cases l with
      | nil => exact ⟨_, rfl⟩
      | cons _ _ => exact False.elim hb
  obtain ⟨v, rfl, h1⟩ := hx.one
  obtain ⟨ys, hy, q⟩ := onV_ex hb
  obtain ⟨a, ws, rfl, la, hs⟩ := seq_of hm h1 hy
  rcases hs with hs | hs
  · exact call_tuple_of pins s σ H _ us Q I r ⟨a, ws, rfl, .inl ⟨hs, fun p hp => hl.newT hm la q p hp⟩⟩
  · exact call_tuple_of pins s σ H _ us Q I r ⟨a, ws, rfl, .inr ⟨hs.sq, hl.now hm (.tup hs la) q⟩⟩
theorem bf_repr (hg : X.A.guards = some []) (hu : X.A.units + 64 < cLine) : CallR X (.builtin "repr") (rC X.K (bfD .repr)) := by
  intro pins s σ H xs us Q I r h
  obtain ⟨A, M, ds, Qd, hx, hm, hb, hl⟩ := h
  obtain ⟨d, rfl⟩ : ∃ d, ds = [d] := by
    cases hx with
    | nil => exact False.elim hb
    | cons hv l => cases l with
      | nil => exact ⟨_, rfl⟩
      | cons _ _ => exact False.elim hb
  obtain ⟨v, rfl, h1⟩ := hx.one
  obtain ⟨p, hp, hs, hd, hde, hz, q⟩ := hb
  obtain ⟨u, rfl, r1⟩ := vals1 r
  have hq := hl.now hm (.str p.shown) q
  have dp := hp.dp hm h1
  cases hp with
  | non =>
    cases h1; cases r1
    exact PySem.P.repr_of_none ⟨V.str _, H, I.tok _, ⟨_, rfl⟩, by simpa only [PyData.shown] using hq⟩
  | bl b =>
    cases h1; cases r1
    exact PySem.P.repr_of_bool ⟨V.str _, H, I.tok _, ⟨_, rfl⟩, by simpa only [PyData.shown] using hq⟩
  | int i =>
    cases h1; obtain ⟨t, rfl⟩ := r1
    refine PySem.P.repr_of_int (by simpa [PyData.showable] using hs) ⟨V.str _, H, I.tok _, ⟨_, rfl⟩, by simpa only [PyData.shown] using hq⟩
  | str z =>
    cases h1; obtain ⟨t, rfl⟩ := r1
    exact PySem.P.repr_of_str ⟨V.str _, H, I.tok _, ⟨_, rfl⟩, by simpa only [PyData.shown] using hq⟩ hz
  | tup l =>
    cases h1; cases r1
    obtain ⟨as, rd⟩ := Dp.reads I _ _ _ dp (show RelV (.ref _) (Value.ref _) from rfl)
    refine repr_of_reads' rd hs (PyData.noDict_hsm hd) hg (by omega) (fun _ _ e => e) (fun h' u tk hk => ?_) hz
    exact ⟨V.str _, H, I.kept (t' := tk) hk, ⟨_, rfl⟩, hq⟩
  | lst e l =>
    cases h1; cases r1
    obtain ⟨as, rd⟩ := Dp.reads I _ _ _ dp (show RelV (.ref _) (Value.ref _) from rfl)
    refine repr_of_reads' rd hs (PyData.noDict_hsm hd) hg (by omega) (fun _ _ e => e) (fun h' u tk hk => ?_) hz
    exact ⟨V.str _, H, I.kept (t' := tk) hk, ⟨_, rfl⟩, hq⟩

/-! methods of lists -/
def rM (K : Frg) (f : D → List D → Mem → Kn → Prop) : V → List V → Hp → VK → Prop := fun x xs H κ => ∃ A M d ds Q, Rp K H A x d ∧ RpL K H A xs ds ∧ Rm K H A M ∧ f d ds M Q ∧ Lf K H A Q κ
theorem Lf.write {K : Frg} {H : Hp} {A : List Addr} {M : Mem} {Q : Kn} {κ : VK} (l : Lf K H A Q κ) (m : Rm K H A M) {n : Nat} {a : Addr} {v : V} {d : D} {vs : List V} {ds : List D} {us : List V} (ha : A[n]? = some a) (hk : H a = some (.lst us)) (r : Rp K H A v d) (rs : RpL K H A vs ds) (q : Q d (M.set n ds)) : κ v (upd H a (.lst vs)) :=
  l d _ v _ A q (stp_write m ha hk) (rm_write m ha hk rs) (r.stp m (stp_write m ha hk))
theorem mf_append : MtR X "list.append" (rM X.K (mfD .append)) := by
  intro pins s σ H x xs v us Q I rx rs h
  obtain ⟨A, M, d, ds, Qd, hx, hxs, hm, hb, hl⟩ := h
  cases hx <;> first | exact False.elim hb | skip
  rename_i a n ha hka
  cases hxs with
  | nil => exact False.elim hb
  | cons hy l => cases l with
    | cons _ _ => exact False.elim hb
    | nil =>
      obtain ⟨ys, e, hz, q⟩ := onV_ex hb
      obtain ⟨vs, h1, l1⟩ := hm.list ha hka e
      exact mt_append pins s σ H _ _ v us Q I rx rs ⟨a, vs, _, rfl, rfl, h1, by rw [l1.length]; exact hz, hl.write hm ha h1 .non (l1.append (.cons hy .nil)) q⟩
theorem mf_reverse : MtR X "list.reverse" (rM X.K (mfD .reverse)) := by
  intro pins s σ H x xs v us Q I rx rs h
  obtain ⟨A, M, d, ds, Qd, hx, hxs, hm, hb, hl⟩ := h
  cases hx <;> first | exact False.elim hb | skip
  rename_i a n ha hka
  cases hxs with
  | nil =>
    obtain ⟨ys, e, q⟩ := onV_ex hb
    obtain ⟨vs, h1, l1⟩ := hm.list ha hka e
    exact mt_reverse pins s σ H _ _ v us Q I rx rs ⟨a, vs, rfl, rfl, h1, hl.write hm ha h1 .non l1.reverse q⟩
  | cons hy l => exact False.elim hb
theorem mf_index (hu : X.A.units + 65 < cLine) : MtR X "list.index" (rM X.K (mfD .index)) := by
  intro pins s σ H x xs v us Q I rx rs h
  obtain ⟨A, M, d, ds, Qd, hx, hxs, hm, hb, hl⟩ := h
  cases hx <;> first | exact False.elim hb | skip
  rename_i a n ha hka
  cases hxs with
  | nil => exact False.elim hb
  | cons hy l => cases l with
    | cons _ _ => exact False.elim hb
    | nil =>
      obtain ⟨xs, p, ps, j, z, e, hp, hps, s1, s2, hj, hz, hno, q⟩ := hb
      exact mt_indexD hu pins s σ H _ _ v us Q I rx rs ⟨a, _, p, ps, j, z, rfl, rfl, (PD.lst e hps).dp hm (.lst ha hka), hp.dp hm hy, s1, s2, hj, hz, hno, hl _ _ _ _ _ q (Stp.refl H A) hm (.int _)⟩
def rCountD (K : PySem.W.Frag) : V → List V → Hp → VK → Prop := fun x xs H Q => ∃ (a : Addr) (y : V) (d : PyData) (ds : List PyData), x = V.ref a ∧ xs = [y] ∧ Dp K H (V.ref a) (.list ds) ∧ Dp K H y d ∧
  SeqAt.shaped (.list ds) = true ∧ SeqAt.shaped d = true ∧ Q (.int (ds.countP fun z => PyData.eqv z d : Nat)) H
theorem mt_lcountD (hu : X.A.units + 65 < cLine) : MtR X "list.count" (rCountD X.K) := by
  intro pins s σ H x xs v us Q I rx rxs h
  obtain ⟨a, y, d, ds, rfl, rfl, hl, hy, sl, sd, q⟩ := h
  cases rx
  cases rxs with
  | cons ry rt =>
    rename_i uy ut
    cases rt
    obtain ⟨bs, r1⟩ := Dp.reads I d y uy hy ry
    have hxs : PyData.canLayAll0 ds = true := SeqAt.canLay_of_shaped sl
    have hroom : X.A.units + 1 + min (PyData.depthAll ds) d.depth < cLine := room_in_shaped sd hu
    cases hl with
    | lst hs ha =>
      obtain ⟨its, rv, ⟨⟨cls, dd, data, sls⟩, n, ho, hc, hdn, hdt⟩, hlen⟩ := I.list hs
      simp only at hc hdt
      subst hc hdt
      obtain ⟨as, h4⟩ := Dp.readsAll I ds _ its ha rv
      have hmap : its.map (SeqAt.readOf s.heap) = ds := SeqAt.readsAll_map ds its as hxs h4
      refine call_meets PySem.F.slot_list_count ⟨_, ho, rfl⟩ PySem.F.entry_list_count (PySem.F.args_list_count_2 _ _)
        (SeqAt.list_countAt a its.toArray n dd sls uy (fun u => PyData.eqv (SeqAt.readOf s.heap u) d)) ⟨ho, SeqAt.items_eqAt (vs := its.toArray) (show ReadsAll s.heap its.toArray.toList ds as from h4) r1 hxs (SeqAt.canLay_of_shaped sd) hroom, ?_⟩
      have ec : its.toArray.toList.countP (fun u => PyData.eqv (SeqAt.readOf s.heap u) d) = ds.countP fun z => PyData.eqv z d := by
        rw [← hmap, List.countP_map]
        rfl
      refine ⟨.int (ds.countP fun z => PyData.eqv z d : Nat), H, I.tok _, ⟨s.toks, ?_⟩, q⟩
      show Value.int ((its.toArray.toList.countP (fun u => PyData.eqv (SeqAt.readOf s.heap u) d) : Nat) : Int) s.toks = Value.int ((ds.countP fun z => PyData.eqv z d : Nat) : Int) s.toks
      rw [ec]
theorem pdl_bools {M : Mem} : ∀ bs : List Bool, PDL M (bs.map D.bl) (bs.map PyData.bool)
  | [] => .nil
  | b :: bs => .cons (.bl b) (pdl_bools bs)
theorem shp_bools (bs : List Bool) : SeqAt.shaped (.list (bs.map PyData.bool)) = true := by
  have sh : PyData.canLayAll0 (bs.map PyData.bool) = true ∧ PyData.depthAll (bs.map PyData.bool) ≤ 1 := by
    induction bs with
    | nil => exact ⟨rfl, by decide⟩
    | cons i ns ih => simp [PyData.canLayAll0, PyData.canLay0, PyData.depthAll, PyData.depth] at ih ⊢; exact ⟨ih.1, by omega⟩
  have := sh.2
  simp [SeqAt.shaped, PyData.canLay0, PyData.depth, sh.1]
  omega
theorem count_bools (b : Bool) : ∀ bs : List Bool, (bs.map PyData.bool).countP (fun z => PyData.eqv z (.bool b)) = bs.count b
  | [] => rfl
  | c :: bs => by
    rw [List.map_cons, List.countP_cons, List.count_cons, count_bools b bs]
    cases b <;> cases c <;> rfl
theorem mf_count (hu : X.A.units + 65 < cLine) : MtR X "list.count" (rM X.K (mfD .count)) := by
  intro pins s σ H x xs v us Q I rx rs h
  obtain ⟨A, M, d, ds, Qd, hx, hxs, hm, hb, hl⟩ := h
  cases hx <;> first | exact False.elim hb | skip
  rename_i a n ha hka
  cases hxs with
  | nil => exact False.elim hb
  | cons hy l => cases l with
    | cons _ _ => cases hy <;> exact False.elim hb
    | nil =>
      cases hy with
      | int i =>
        obtain ⟨ns, e, q⟩ := hb
        obtain ⟨vs, h1, l1⟩ := hm.list ha hka e
        rw [RpL.of_ints l1] at h1
        exact mt_lcount pins s σ H _ _ v us Q I rx rs ⟨a, ns, _, rfl, rfl, SqL.of h1, hl _ _ _ _ _ q (Stp.refl H A) hm (.int _)⟩
      | bl b =>
        obtain ⟨bs, e, _, q⟩ := hb
        refine mt_lcountD hu pins s σ H _ _ v us Q I rx rs ⟨a, _, .bool b, bs.map PyData.bool, rfl, rfl, (PD.lst e (pdl_bools bs)).dp hm (.lst ha hka), (PD.bl b).dp hm (.bl b), shp_bools bs, by cases b <;> decide, ?_⟩
        rw [count_bools]
        exact hl _ _ _ _ _ q (Stp.refl H A) hm (.int _)
      | _ => exact False.elim hb
theorem mf_insert : MtR X "list.insert" (rM X.K (mfD .insert)) := by
  intro pins s σ H x xs v us Q I rx rs h
  obtain ⟨A, M, d, ds, Qd, hx, hxs, hm, hb, hl⟩ := h
  cases hx <;> first | exact False.elim hb | skip
  rename_i a n ha hka
  cases hxs with
  | nil => exact False.elim hb
  | cons hy l => cases l with
    | nil => cases hy <;> exact False.elim hb
    | cons hw l => cases l with
      | cons _ _ => cases hy <;> exact False.elim hb
      | nil =>
        cases hy <;> first | exact False.elim hb | skip
        obtain ⟨ys, e, hz, h0, h1, q⟩ := onV_ex hb
        obtain ⟨vs, e1, l1⟩ := hm.list ha hka e
        exact mt_insert pins s σ H _ _ v us Q I rx rs ⟨a, vs, _, _, rfl, rfl, e1, by rw [l1.length]; exact hz, h0, h1, hl.write hm ha e1 .non (((l1.take _).append (.cons hw .nil)).append (l1.drop _)) q⟩
theorem mf_extend : MtR X "list.extend" (rM X.K (mfD .extend)) := by
  intro pins s σ H x xs v us Q I rx rs h
  obtain ⟨A, M, d, ds, Qd, hx, hxs, hm, hb, hl⟩ := h
  cases hx <;> first | exact False.elim hb | skip
  rename_i a n ha hka
  cases hxs with
  | nil => exact False.elim hb
  | cons hy l => cases l with
    | cons _ _ => cases hy <;> exact False.elim hb
    | nil =>
      cases hy <;> first | exact False.elim hb | skip
      rename_i b k hb' hkb
      obtain ⟨ys, e, hb⟩ := onV_ex hb
      obtain ⟨zs, e', hz, q⟩ := onV_ex hb
      obtain ⟨vs, h1, l1⟩ := hm.list ha hka e
      obtain ⟨ws, h2, l2⟩ := hm.list hb' hkb e'
      exact mt_extend pins s σ H _ _ v us Q I rx rs ⟨a, b, vs, ws, rfl, rfl, h1, h2, by rw [l1.length, l2.length]; exact hz, hl.write hm ha h1 .non (l1.append l2) q⟩
theorem mf_pop0 : MtR X "list.pop" (fun x xs H κ => xs = [] ∧ rM X.K (mfD .pop) x xs H κ) := by
  intro pins s σ H x xs v us Q I rx rs ⟨hn, h⟩
  obtain ⟨A, M, d, ds, Qd, hx, hxs, hm, hb, hl⟩ := h
  subst hn
  cases hxs
  cases hx <;> first | exact False.elim hb | skip
  rename_i a n ha hka
  obtain ⟨ys, e, hb⟩ := onV_ex hb
  obtain ⟨y, ey, q⟩ := onV_ex hb
  obtain ⟨vs, h1, l1⟩ := hm.list ha hka e
  obtain ⟨w, hw, rw'⟩ := l1.get ey
  exact mt_pop pins s σ H _ _ v us Q I rx rs ⟨a, vs, w, rfl, rfl, h1, by rw [l1.length]; exact hw, hl.write hm ha h1 rw' l1.dropLast q⟩
theorem mf_pop1 : MtR X "list.pop" (fun x xs H κ => xs ≠ [] ∧ rM X.K (mfD .pop) x xs H κ) := by
  intro pins s σ H x xs v us Q I rx rs ⟨hn, h⟩
  obtain ⟨A, M, d, ds, Qd, hx, hxs, hm, hb, hl⟩ := h
  cases hx <;> first | exact False.elim hb | skip
  rename_i a n ha hka
  cases hxs with
  | nil => exact (hn rfl).elim
  | cons hy l => cases l with
    | cons _ _ => cases hy <;> exact False.elim hb
    | nil =>
      cases hy <;> first | exact False.elim hb | skip
      rename_i i
      obtain ⟨ys, e, h0, hi, hz, hb⟩ := onV_ex hb
      obtain ⟨y, ey, q⟩ := onV_ex hb
      obtain ⟨vs, h1, l1⟩ := hm.list ha hka e
      obtain ⟨w, hw, rw'⟩ := l1.get ey
      have hl1 := l1.length
      refine mt_popAt pins s σ H _ _ v us Q I rx rs ⟨a, vs, i, i.toNat, w, rfl, rfl, h1, by omega, by omega, ?_, hw, hl.write hm ha h1 rw' (l1.eraseIdx _) q⟩
      exact seqIndex_of h0 (by rw [hl1]; exact hi)
theorem mf_pop : MtR X "list.pop" (rM X.K (mfD .pop)) := by
  intro pins s σ H x xs v us Q I rx rs h
  by_cases e : xs = []
  · exact mf_pop0 pins s σ H x xs v us Q I rx rs ⟨e, h⟩
  · exact mf_pop1 pins s σ H x xs v us Q I rx rs ⟨e, h⟩
theorem KvR.map {K : Frg} {H : Hp} {A : List Addr} (k : Int × Int) {y : V} {d : D} (hy : Rp K H A y d) : ∀ {kvs : List (List L2.Key × V)} {ls : Tab}, KvR K H A kvs ls →
    KvR K H A (kvs.map fun kv => if kv.1 = keyP k then (kv.1, y) else kv) (ls.map fun e => if e.1 = k then (e.1, d) else e)
  | _, _, .nil => .nil
  | _, _, .cons (p := p) (v := v) (d := d') h l => by
    rw [List.map_cons, List.map_cons]
    by_cases e : p = k
    · rw [if_pos (show (keyP p, v).1 = keyP k from keyP_inj.mpr e), if_pos e]
      exact .cons hy (KvR.map k hy l)
    · rw [if_neg (show ¬ (keyP p, v).1 = keyP k from fun z => e (keyP_inj.mp z)), if_neg e]
      exact .cons h (KvR.map k hy l)
theorem KvR.any {K : Frg} {H : Hp} {A : List Addr} (k : Int × Int) : ∀ {kvs : List (List L2.Key × V)} {ls : Tab}, KvR K H A kvs ls →
    ((kvs.any fun kv => decide (kv.1 = keyP k)) = true ↔ (ls.any fun e => decide (e.1 = k)) = true)
  | _, _, .nil => by simp
  | _, _, .cons (p := p) (v := v) h l => by
    have := KvR.any k l
    rw [List.any_cons, List.any_cons, Bool.or_eq_true, Bool.or_eq_true, this]
    simp only [decide_eq_true_eq, keyP_inj]
theorem KvR.snoc {K : Frg} {H : Hp} {A : List Addr} {p : Int × Int} {y : V} {d : D} (hy : Rp K H A y d) : ∀ {kvs : List (List L2.Key × V)} {ls : Tab}, KvR K H A kvs ls → KvR K H A (kvs ++ [(keyP p, y)]) (ls ++ [(p, d)])
  | _, _, .nil => .cons hy .nil
  | _, _, .cons h l => .cons h (KvR.snoc hy l)
theorem KvR.put {K : Frg} {H : Hp} {A : List Addr} (k : Int × Int) {y : V} {d : D} (hy : Rp K H A y d) {kvs : List (List L2.Key × V)} {ls : Tab} (r : KvR K H A kvs ls) : KvR K H A (putK kvs (keyP k) y) (putP ls k d) := by
  unfold putK putP
  have := r.any k
  by_cases c : (ls.any fun e => decide (e.1 = k)) = true
  · rw [if_pos c, if_pos (this.mpr c)]
    exact r.map k hy
  · rw [if_neg c, if_neg fun z => c (this.mp z)]
    exact r.snoc hy
theorem KvR.length {K : Frg} {H : Hp} {A : List Addr} : ∀ {kvs : List (List L2.Key × V)} {ls : Tab}, KvR K H A kvs ls → kvs.length = ls.length
  | _, _, .nil => rfl
  | _, _, .cons _ l => congrArg (· + 1) (KvR.length l)
theorem key_tup {H : Hp} {b : Addr} {p q : Int} (h : H b = some (.tup [.int p, .int q])) : H b = some (.tup ((keyP (p, q)).map kV)) := h
/-- a dict's cell written -/
theorem dct_write {K : Frg} {H : Hp} {A : List Addr} {M : Mem} (m : Rm K H A M) {n : Nat} {a : Addr} {kvs ks : List (List L2.Key × V)} {ls : Tab} (ha : A[n]? = some a) (hk : H a = some (.dT kvs)) (r : KvR K H A ks ls) : Stp H A (upd H a (.dT ks)) A ∧ Rm K (upd H a (.dT ks)) A (M.set n (dcD ls)) := by
  have s := stp_writeO m (o := .dT ks) ha (same_dct hk)
  exact ⟨s, rm_writeC m ha (same_dct hk) (.dct upd_same (r.stp m s))⟩
theorem setD_ok (hu : X.A.units + 1 < cLine) : PSet X (fun o i v H R => ∃ A M dx dy dz Qd, Rp X.K H A o dx ∧ Rp X.K H A i dy ∧ Rp X.K H A v dz ∧ Rm X.K H A M ∧ setIxD dx dy dz M Qd ∧ ∀ M' H', Qd M' → Stp H A H' A → Rm X.K H' A M' → R H') := by
  intro pins s σ H x y z ov iv u Q I r1 r2 r3 h
  obtain ⟨A, M, dx, dy, dz, Qd, h1, h2, h3, hm, hb, hl⟩ := h
  have key : (∃ n k, dx = .lst n ∧ dy = .int k) ∨ ∃ n a b, dx = .dct n ∧ dy = .tup [.int a, .int b] := by
    unfold setIxD at hb
    split at hb
    · exact .inl ⟨_, _, rfl, rfl⟩
    · exact .inr ⟨_, _, _, rfl, rfl⟩
    · exact hb.elim
  rcases key with ⟨n, k, rfl, rfl⟩ | ⟨n, p, q', rfl, rfl⟩
  · cases h1 with
    | lst ha hka =>
      cases h2
      obtain ⟨xs, e, hb⟩ := onV_ex hb
      obtain ⟨j, hj, q⟩ := onV_ex hb
      obtain ⟨vs, e1, l1⟩ := hm.list ha hka e
      exact set_list pins s σ H _ _ _ ov iv u Q I r1 r2 r3 ⟨_, vs, k, j, rfl, rfl, e1, by rw [l1.length]; exact hj, hl _ _ q (stp_write hm ha e1) (rm_write hm ha e1 (l1.set h3 j))⟩
  · cases h1 with
    | dct ha hka =>
      obtain ⟨b, rfl, hb'⟩ := h2.key
      obtain ⟨ls, e, hz, q⟩ := hb
      obtain ⟨kvs, e1, l1⟩ := hm.dict ha e
      obtain ⟨st, rm⟩ := dct_write hm ha e1 (l1.put (p, q') h3)
      exact set_dict hu pins s σ H _ _ _ ov iv u Q I r1 r2 r3 ⟨_, _, rfl, DPut.t e1 (key_tup hb') (by rw [l1.length]; exact hz), hl _ _ q st rm⟩
/-- list(d) -/
theorem bf_ldc (hc : X.calm = true) : CallR X (.type "list") (rC X.K (bfD .ldc)) := by
  intro pins s σ H xs us Q I r h
  obtain ⟨A, M, ds, Qd, hx, hm, hb, hl⟩ := h
  obtain ⟨n, rfl⟩ : ∃ n, ds = [.dct n] := by
    cases hx with
    | nil => exact False.elim hb
    | cons hv l => cases l with
      | nil => cases hv <;> first | exact ⟨_, rfl⟩ | exact False.elim hb
      | cons _ _ => cases hv <;> exact False.elim hb
  obtain ⟨v, rfl, h1⟩ := hx.one
  obtain ⟨ls, e, q⟩ := hb
  cases h1 with
  | dct ha hka =>
    obtain ⟨kvs, e1, l1⟩ := hm.dict ha e
    refine call_list_dT hc pins s σ H _ us Q I r ⟨_, kvs, rfl, .inl e1, fun p bs hp hk => hl.newL hm ?_ q p hp⟩
    unfold IsKeys at hk
    clear e1 e q hl
    induction l1 generalizing bs with
    | nil => cases hk; exact .nil
    | cons h l ih =>
      cases hk with
      | cons h1 h2 => exact .cons (.tup (.inl h1) (.cons (.int _) (.cons (.int _) .nil))) (ih _ h2)
/-- d.setdefault(k, v), by values -/
theorem mf_setd (hu : X.A.units + 1 < cLine) : MtR X "dict.setdefault" (rM X.K dsD) := by
  intro pins s σ H x xs v us Q I rx rs h
  obtain ⟨A, M, d, ds, Qd, hx, hxs, hm, hb, hl⟩ := h
  obtain ⟨n, ls, p, q', z, rfl, rfl, e, hz, h1, h2⟩ := hb
  cases hx with
  | dct ha hka =>
    rename_i a
    cases hxs with
    | cons hk l =>
      cases l with
      | cons hv l =>
        cases l
        obtain ⟨b, rfl, hb'⟩ := hk.key
        rename_i vz
        cases rs with
        | cons rb rs =>
          cases rs with
          | cons rz rs =>
            cases rs
            cases rx
            cases (show _ = Value.ref b from rb)
            obtain ⟨kvs, e1, l1⟩ := hm.dict ha e
            obtain ⟨hs, hd, xs, rel, dd⟩ := dt_of I.hok e1
            have key := key_tup hb'
            have v1 := l1.val (p, q')
            have l2 : xs.length = kvs.length := (Paired.length rel).symm
            have l3 := l1.length
            refine call_setdefault_heap (tupleKind_room_in1 hu) (key_of I.hok key) hd dd (fun pr hp => ?_) (fun hn h' dd' hs' => ?_) (hsz := by omega)
            · have rv := rel.val (keyP (p, q'))
              rw [hp] at rv
              cases hv' : valP ls (p, q') with
              | none => rw [v1.2 hv'] at rv; exact (show False from rv).elim
              | some w =>
                obtain ⟨w', hw', rw'⟩ := v1.1 w hv'
                rw [hw'] at rv
                exact ⟨w', H, I.tok _, rv, hl.now hm rw' (h1 w hv')⟩
            · have rv := rel.val (keyP (p, q'))
              rw [hn] at rv
              cases hv' : valP ls (p, q') with
              | some w =>
                obtain ⟨w', hw', rw'⟩ := v1.1 w hv'
                rw [hw'] at rv
                exact (show False from rv).elim
              | none =>
                obtain ⟨st, rm⟩ := dct_write hm ha e1 (l1.put (p, q') hv)
                have hl2 : (putK kvs (keyP (p, q')) vz).length ≤ sizeLine := by
                  have := length_putK kvs (keyP (p, q')) vz
                  omega
                refine ⟨vz, _, ?_, rz, hl _ _ _ _ _ (h2 hv') st rm (hv.stp hm st)⟩
                obtain ⟨q, es, ep, hq, g2, g3, g4, _, g5⟩ := dd'
                refine d_write I (by rw [e1]; exact True.intro) hs' ⟨q, hq⟩ ⟨hl2, hd, _, (rel.put (keyP (p, q')) key rz).keeps fun c ys ec => ?_, q, es, ep, hq, g2, g3, g4, g5⟩
                rw [upd_ne (ne_of ec e1 (fun z => nomatch z))]
                exact ec
end
end DL

set_option Elab.async false
set_option linter.all false
set_option maxRecDepth 100000
set_option maxHeartbeats 4000000
set_option autoImplicit false
namespace DPt
open PySem PySem.W L2 PySem.Spec PyProof.Rows DL
/-! min of a list of points -/
def ptD (p : Int × Int) : PyData := .tuple [.int p.1, .int p.2]
theorem lt_pts (p q : Int × Int) : dataLt (ptD p) (ptD q) = true ↔ Lx p q := by
  unfold dataLt ptD Lx
  simp only [keyToks, toks_all_cons, keyToksAll, List.cons_append, List.nil_append, lex_cons]
  simp [PyProof.Rows.lexLt, itemOrd, itemLt]
  omega
theorem alike_pts (p q : Int × Int) : alike (ptD p) (ptD q) = true := by simp [ptD, alike, alikeAll]
theorem alikeAll_pts (ls : List (Int × Int)) : AlikeAll (ls.map ptD) := ⟨fun x hx y hy => by
  obtain ⟨p, _, rfl⟩ := List.mem_map.mp hx
  obtain ⟨q, _, rfl⟩ := List.mem_map.mp hy
  exact alike_pts p q, fun x hx => by
  obtain ⟨p, _, rfl⟩ := List.mem_map.mp hx
  intro z
  cases z⟩
theorem min_pts : ∀ (ls : List (Int × Int)) (p : Int × Int), ∃ m, m ∈ p :: ls ∧ minD (ptD p) (ls.map ptD) = ptD m ∧ ∀ q ∈ p :: ls, ¬ Lx q m
  | [], p => ⟨p, by simp, rfl, fun q hq => by simp at hq; rw [hq]; unfold Lx; omega⟩
  | q :: ls, p => by
    have e : minD (ptD p) ((q :: ls).map ptD) = minD (if dataLt (ptD q) (ptD p) = true then ptD q else ptD p) (ls.map ptD) := rfl
    by_cases h : Lx q p
    · obtain ⟨m, h1, h2, h3⟩ := min_pts ls q
      refine ⟨m, List.mem_cons_of_mem _ h1, by rw [e, if_pos ((lt_pts q p).mpr h), h2], fun r hr => ?_⟩
      rcases List.mem_cons.mp hr with rfl | hr
      · have := h3 q (by simp)
        unfold Lx at *
        omega
      · exact h3 r hr
    · obtain ⟨m, h1, h2, h3⟩ := min_pts ls p
      refine ⟨m, ?_, by rw [e, if_neg (fun z => h ((lt_pts q p).mp z)), h2], fun r hr => ?_⟩
      · rcases List.mem_cons.mp h1 with h1 | h1
        · rw [h1]; simp
        · simp [h1]
      · rcases List.mem_cons.mp hr with rfl | hr
        · exact h3 r (by simp)
        · rcases List.mem_cons.mp hr with rfl | hr
          · have := h3 p (by simp)
            unfold Lx at *
            omega
          · exact h3 r (by simp [hr])

def rMnp (K : Frg) : List V → Hp → VK → Prop := fun xs H Q => ∃ (a : Addr) (vs : List V) (ls : List (Int × Int)), xs = [.ref a] ∧ SqL K H a vs ∧ DpAll K H vs (ls.map ptD) ∧ ls ≠ [] ∧ ∀ (i : Nat) v p, vs[i]? = some v → ls[i]? = some p → (∀ q ∈ ls, ¬ Lx q p) → Q v H
theorem depth_pts : ∀ ls : List (Int × Int), PyData.depthAll (ls.map ptD) ≤ 2
  | [] => by simp [PyData.depthAll]
  | p :: ls => by
    have := depth_pts ls
    simp [PyData.depthAll, ptD, PyData.depth] at this ⊢
    omega
theorem lay_pt (p : Int × Int) : (ptD p).canLay0 = true := by simp [ptD, PyData.canLay0, PyData.canLayAll0]
theorem ptD_inj {p q : Int × Int} (h : ptD p = ptD q) : p = q := by
  unfold ptD at h
  simp at h
  exact Prod.ext h.1 h.2
theorem cr_mnp {X : Cx} (hc : X.calm = true) (hu : X.A.units + 64 < cLine) : CallR X (.builtin "min") (rMnp X.K) := by
  intro pins s σ H xs us Q I r h
  obtain ⟨a, vs, ls, rfl, hs, hd, ne, q⟩ := h
  obtain ⟨its, rv, hl, _⟩ := I.list hs
  rw [Vals.ref1 r]
  obtain ⟨as, hr⟩ := Dp.readsAll I (ls.map ptD) vs its hd rv
  cases ls with
  | nil => exact absurd rfl ne
  | cons p ls =>
    have hdp := depth_pts (p :: ls)
    have hr' : ReadsAll s.heap its.toArray.toList (ptD p :: ls.map ptD) as := hr
    refine min_list_data (I.ok.hd hc) hl.isList (x := ptD p) (xs := ls.map ptD) hr' (alikeAll_pts (p :: ls)) (by simp only [List.map_cons] at hdp; omega) fun i v h' tk bs hv hread hk => ?_
    obtain ⟨m, hm, em, least⟩ := min_pts ls p
    rw [em] at hread
    obtain ⟨cs, r2, _⟩ := readsAll_atA hr' i v hv
    have hi : i < its.length := by simpa using (Array.getElem?_eq_some_iff.mp hv).1
    have hvl : its[i]? = some v := by simpa using hv
    have ln : vs.length = its.length := rv.length
    have ln2 : its.length = (p :: ls).length := by
      have := SeqAt.ReadsAll.length _ _ _ hr
      simpa using this
    have hp : (p :: ls)[i]? = some (p :: ls)[i] := List.getElem?_eq_getElem (by omega)
    have eg : (ptD p :: ls.map ptD).getD i .none = ptD ((p :: ls)[i]) := by
      rw [← List.map_cons, List.getD_eq_getElem?_getD, List.getElem?_map, hp]
      rfl
    rw [eg] at r2
    have e1 := SeqAt.readOf_eq (lay_pt _) (reads_keeps hk r2)
    have e2 := SeqAt.readOf_eq (lay_pt _) hread
    have e3 : (p :: ls)[i] = m := ptD_inj (e1.symm.trans e2)
    have hw : vs[i]? = some vs[i] := List.getElem?_eq_getElem (by omega)
    obtain ⟨u, hu2, ru⟩ := rv.get hw
    rw [hvl] at hu2
    cases hu2
    exact ⟨vs[i], H, I.kept (t' := tk) hk, ru, q i _ m hw (by rw [hp, e3]) least⟩

theorem max_pts : ∀ (ls : List (Int × Int)) (p : Int × Int), ∃ m, m ∈ p :: ls ∧ maxD (ptD p) (ls.map ptD) = ptD m ∧ ∀ q ∈ p :: ls, ¬ Lx m q
  | [], p => ⟨p, by simp, rfl, fun q hq => by simp at hq; rw [hq]; unfold Lx; omega⟩
  | q :: ls, p => by
    have e : maxD (ptD p) ((q :: ls).map ptD) = maxD (if dataLt (ptD p) (ptD q) = true then ptD q else ptD p) (ls.map ptD) := rfl
    by_cases h : Lx p q
    · obtain ⟨m, h1, h2, h3⟩ := max_pts ls q
      refine ⟨m, List.mem_cons_of_mem _ h1, by rw [e, if_pos ((lt_pts p q).mpr h), h2], fun r hr => ?_⟩
      rcases List.mem_cons.mp hr with rfl | hr
      · have := h3 q (by simp)
        unfold Lx at *
        omega
      · exact h3 r hr
    · obtain ⟨m, h1, h2, h3⟩ := max_pts ls p
      refine ⟨m, ?_, by rw [e, if_neg (fun z => h ((lt_pts p q).mp z)), h2], fun r hr => ?_⟩
      · rcases List.mem_cons.mp h1 with h1 | h1
        · rw [h1]; simp
        · simp [h1]
      · rcases List.mem_cons.mp hr with rfl | hr
        · exact h3 r (by simp)
        · rcases List.mem_cons.mp hr with rfl | hr
          · have := h3 p (by simp)
            unfold Lx at *
            omega
          · exact h3 r (by simp [hr])
def rMxp (K : Frg) : List V → Hp → VK → Prop := fun xs H Q => ∃ (a : Addr) (vs : List V) (ls : List (Int × Int)), xs = [.ref a] ∧ SqT K H a vs ∧ DpAll K H vs (ls.map ptD) ∧ ls ≠ [] ∧ ∀ (i : Nat) v p, vs[i]? = some v → ls[i]? = some p → (∀ q ∈ ls, ¬ Lx p q) → Q v H
theorem cr_mxp {X : Cx} (hc : X.calm = true) (hu : X.A.units + 64 < cLine) : CallR X (.builtin "max") (rMxp X.K) := by
  intro pins s σ H xs us Q I r h
  obtain ⟨a, vs, ls, rfl, hs, hd, ne, q⟩ := h
  obtain ⟨its, rv, hl, _⟩ := I.tuple hs
  rw [Vals.ref1 r]
  obtain ⟨as, hr⟩ := Dp.readsAll I (ls.map ptD) vs its hd rv
  cases ls with
  | nil => exact absurd rfl ne
  | cons p ls =>
    have hdp := depth_pts (p :: ls)
    have hr' : ReadsAll s.heap its.toArray.toList (ptD p :: ls.map ptD) as := hr
    refine max_tuple_data (I.ok.hd hc) hl (x := ptD p) (xs := ls.map ptD) hr' (alikeAll_pts (p :: ls)) (by simp only [List.map_cons] at hdp; omega) fun i v h' tk bs hv hread hk => ?_
    obtain ⟨m, hm, em, least⟩ := max_pts ls p
    rw [em] at hread
    obtain ⟨cs, r2, _⟩ := readsAll_atA hr' i v hv
    have hi : i < its.length := by simpa using (Array.getElem?_eq_some_iff.mp hv).1
    have hvl : its[i]? = some v := by simpa using hv
    have ln : vs.length = its.length := rv.length
    have ln2 : its.length = (p :: ls).length := by
      have := SeqAt.ReadsAll.length _ _ _ hr
      simpa using this
    have hp : (p :: ls)[i]? = some (p :: ls)[i] := List.getElem?_eq_getElem (by omega)
    have eg : (ptD p :: ls.map ptD).getD i .none = ptD ((p :: ls)[i]) := by
      rw [← List.map_cons, List.getD_eq_getElem?_getD, List.getElem?_map, hp]
      rfl
    rw [eg] at r2
    have e1 := SeqAt.readOf_eq (lay_pt _) (reads_keeps hk r2)
    have e2 := SeqAt.readOf_eq (lay_pt _) hread
    have e3 : (p :: ls)[i] = m := ptD_inj (e1.symm.trans e2)
    have hw : vs[i]? = some vs[i] := List.getElem?_eq_getElem (by omega)
    obtain ⟨u, hu2, ru⟩ := rv.get hw
    rw [hvl] at hu2
    cases hu2
    exact ⟨vs[i], H, I.kept (t' := tk) hk, ru, q i _ m hw (by rw [hp, e3]) least⟩
/-! max(xs, default=d), xs a list of whole numbers -/
def rMxd (K : Frg) : List V → List V → Hp → VK → Prop := fun xs zs H Q => ∃ (a : Addr) (ns : List Int) (d : Int), xs = [.ref a] ∧ zs = [.int d] ∧ SqL K H a (ns.map V.int) ∧ (ns = [] → Q (.int d) H) ∧ ∀ m, m ∈ ns → (∀ y, y ∈ ns → y ≤ m) → Q (.int m) H
theorem maxOf_int : ∀ (ys : List Int) (y : Int), maxOf y ys ∈ y :: ys ∧ ∀ z ∈ y :: ys, z ≤ maxOf y ys
  | [], y => ⟨by simp [maxOf], fun z hz => by simp at hz; simp [maxOf, hz]⟩
  | b :: ys, y => by
    have e : maxOf y (b :: ys) = maxOf (if DatumOrd.lt y b = true then b else y) ys := rfl
    have hlt : DatumOrd.lt y b = true ↔ y < b := by simp [DatumOrd.lt]
    rw [e]
    by_cases h : y < b
    · rw [if_pos (hlt.mpr h)]
      obtain ⟨m, g⟩ := maxOf_int ys b
      refine ⟨List.mem_cons_of_mem _ m, fun z hz => ?_⟩
      rcases List.mem_cons.mp hz with rfl | hz
      · have := g b (by simp); omega
      · exact g z hz
    · rw [if_neg (fun z => h (hlt.mp z))]
      obtain ⟨m, g⟩ := maxOf_int ys y
      refine ⟨?_, fun z hz => ?_⟩
      · rcases List.mem_cons.mp m with m | m
        · rw [m]; simp
        · simp [m]
      · rcases List.mem_cons.mp hz with rfl | hz
        · exact g z (by simp)
        · rcases List.mem_cons.mp hz with rfl | hz
          · have := g y (by simp); omega
          · exact g z (by simp [hz])
theorem cr_mxd {X : Cx} (hc : X.calm = true) (hu : X.A.units + 64 < cLine) : CallRK X (.builtin "max") [Str.ofString "default"] (rMxd X.K) := by
  intro pins s σ H xs zs us ws Q I r rz h
  obtain ⟨a, ns, d, rfl, rfl, hs, q0, q⟩ := h
  obtain ⟨its, rv, hl, _⟩ := I.list hs
  rw [Vals.ref1 r]
  obtain ⟨w1, rfl, t1, rfl⟩ := vals1 rz
  refine max_list_datum_default (α := Int) (I.ok.hd hc) hl.isList (xs := ns) (by simpa using HoldAll.of_ints rv.ints) (by simp [Datum.depth]; omega) (fun e h' tk hk => ?_) fun y ys i v h' tk e hv hh hk => ?_
  · exact ⟨.int d, H, I.kept (t' := tk) hk, ⟨t1, rfl⟩, q0 e⟩
  · obtain ⟨t2, rfl⟩ := int_of_holds hh
    obtain ⟨m, g⟩ := maxOf_int ys y
    rw [← e] at m g
    exact ⟨.int (maxOf y ys), H, I.kept (t' := tk) hk, ⟨t2, rfl⟩, q _ m g⟩
end DPt

set_option Elab.async false
set_option linter.all false
set_option maxRecDepth 100000
set_option maxHeartbeats 4000000
namespace DL
open PySem L2 PySem.Spec PyProof.Rows

/-! is this tree that text? -/
def noStar : Expr → Bool
  | .Starred _ _ => false
  | _ => true
def noSlice : Expr → Bool
  | .Slice _ _ _ _ => false
  | _ => true
def noComp : Expr → Bool
  | .ListComp _ _ _ _ => false
  | .SetComp _ _ _ _ => false
  | .DictComp _ _ _ _ _ => false
  | _ => true
def noSet : Expr → Bool
  | .Set _ _ _ => false
  | _ => true
def isDct : Expr → Bool
  | .Dict [] [] _ => true
  | _ => false
def baseB : Expr → Bool
  | .Name _ _ => true
  | .Subscript _ _ _ => true
  | .BinOp _ _ _ _ => true
  | _ => false
def visB (sc : Scope) (x : Str) : Bool := match sc.names.lookup x with
  | some .local => true
  | some .cell => true
  | some .free => true
  | _ => false
def glB (sc : Scope) (x : Str) : Bool := match sc.names.lookup x with
  | some .globalImplicit => true
  | _ => false
def bfName : BF → String
  | .len => "len" | .abs => "abs" | .max => "max" | .min => "min" | .sum => "sum" | .all => "all" | .any => "any" | .repr => "repr"
  | .str => "str" | .int => "int" | .list => "list" | .tuple => "tuple" | .sset => "sorted" | .sor => "sorted" | .mnp => "min" | .ldc => "list" | .mxp => "max" | .srp => "sorted"
def bNames : List String := ["len", "abs", "max", "min", "sum", "all", "any", "repr", "str", "int", "list", "tuple", "sorted", "set", "isinstance", "range", "zip", "enumerate", "bool", "reversed"]
def tyNameB (sc : Scope) : List String → List Expr → Bool
  | [], [] => true
  | T :: r, .Name x _ :: es => decide (x = Str.ofString T) && glB sc x && clNames.contains T && tyNameB sc r es
  | _, _ => false
def ownOf (N : List Str) (vs : List Nat) : List (Str × Nat) := vs.filterMap fun i => (N[i]?).map fun x => (x, i)
def locB (scope : Scope) (x : Str) : Bool := match scope.names.lookup x with
  | some .local => true
  | some .cell => true
  | _ => false
def tgNames (N : List Str) (scope : Scope) (vs : List Nat) : List Nat → List Expr → Bool
  | [], [] => true
  | i :: is, .Name x _ :: es => decide (N[i]? = some x) && locB scope x && vs.contains i && tgNames N scope vs is es
  | _, _ => false
def chkTg (N : List Str) (scope : Scope) (vs : List Nat) : List Nat → Expr → Bool
  | [i], .Name x _ => decide (N[i]? = some x) && locB scope x && vs.contains i
  | is, .Tuple es _ _ => decide (2 ≤ is.length) && decide is.Nodup && tgNames N scope vs is es
  | _, _ => false
def mfName : MF → String
  | .append => "append" | .pop => "pop" | .extend => "extend" | .insert => "insert" | .index => "index" | .count => "count" | .reverse => "reverse"

/-! what a text's tree is made of -/
def asName : Expr → Option Str
  | .Name x _ => some x
  | _ => none
def asConst : Expr → Option Const
  | .Constant c _ _ => some c
  | _ => none
def asBin : Expr → Option (Operator × Expr × Expr)
  | .BinOp x op y _ => some (op, x, y)
  | _ => none
def asUn : Expr → Option (UnaryOp × Expr)
  | .UnaryOp op x _ => some (op, x)
  | _ => none
def asBool : Expr → Option (BoolOp × List Expr × Pos)
  | .BoolOp op vs p => some (op, vs, p)
  | _ => none
def asCmp : Expr → Option (Expr × List CmpOp × List Expr)
  | .Compare x os ys _ => some (x, os, ys)
  | _ => none
def asIfE : Expr → Option (Expr × Expr × Expr)
  | .IfExp c x y _ => some (c, x, y)
  | _ => none
def asTup : Expr → Option (List Expr)
  | .Tuple es _ _ => some es
  | _ => none
def asLst : Expr → Option (List Expr)
  | .List es _ => some es
  | _ => none
def asSub : Expr → Option (Expr × Expr)
  | .Subscript x y _ => some (x, y)
  | _ => none
def asSlice : Expr → Option (Option Expr × Option Expr × Option Expr)
  | .Slice l h s _ => some (l, h, s)
  | _ => none
def asCall : Expr → Option (Expr × List Expr × Pos)
  | .Call f es [] p => some (f, es, p)
  | _ => none
def asCallK : Expr → Option (Expr × Expr × List Keyword × Pos)
  | .Call f [y] (kw :: kws) p => some (f, y, kw :: kws, p)
  | _ => none
/-- default=0 -/
def dflB : List Keyword → Bool
  | [⟨some n, .Constant (.int z) _ _, _⟩] => decide (n = Str.ofString "default") && decide (z = 0)
  | _ => false
theorem dflB_eq {kws : List Keyword} (h : dflB kws = true) : ∃ j p q, kws = [⟨some (Str.ofString "default"), .Constant (.int 0) j p, q⟩] := by
  unfold dflB at h
  split at h
  · simp only [Bool.and_eq_true, decide_eq_true_eq] at h
    obtain ⟨rfl, rfl⟩ := h
    exact ⟨_, _, _, rfl⟩
  · cases h
theorem asCallK_eq {e f y : Expr} {kws : List Keyword} {p : Pos} (h : asCallK e = some (f, y, kws, p)) : e = .Call f [y] kws p := by
  unfold asCallK at h
  split at h
  · cases h; rfl
  · cases h
def asAttr : Expr → Option (Expr × Str × Pos)
  | .Attribute e n p => some (e, n, p)
  | _ => none
def asComp : Expr → Option (Expr × Expr × Expr × List Expr × Scope)
  | .ListComp e [⟨t, i, ifs, 0⟩] scope _ => some (e, t, i, ifs, scope)
  | _ => none
theorem asName_eq {e : Expr} {x : Str} (h : asName e = some x) : ∃ p, e = .Name x p := by cases e <;> first | (cases h; done) | (cases h; exact ⟨_, rfl⟩)
theorem asConst_eq {e : Expr} {x : Const} (h : asConst e = some x) : ∃ j p, e = .Constant x j p := by cases e <;> first | (cases h; done) | (cases h; exact ⟨_, _, rfl⟩)
theorem asBin_eq {e : Expr} {op : Operator} {x y : Expr} (h : asBin e = some (op, x, y)) : ∃ p, e = .BinOp x op y p := by cases e <;> first | (cases h; done) | (cases h; exact ⟨_, rfl⟩)
theorem asUn_eq {e : Expr} {op : UnaryOp} {x : Expr} (h : asUn e = some (op, x)) : ∃ p, e = .UnaryOp op x p := by cases e <;> first | (cases h; done) | (cases h; exact ⟨_, rfl⟩)
theorem asBool_eq {e : Expr} {op : BoolOp} {vs : List Expr} {p : Pos} (h : asBool e = some (op, vs, p)) : e = .BoolOp op vs p := by cases e <;> first | (cases h; done) | (cases h; rfl)
theorem asCmp_eq {e : Expr} {x : Expr} {os : List CmpOp} {ys : List Expr} (h : asCmp e = some (x, os, ys)) : ∃ p, e = .Compare x os ys p := by cases e <;> first | (cases h; done) | (cases h; exact ⟨_, rfl⟩)
theorem asIfE_eq {e : Expr} {c x y : Expr} (h : asIfE e = some (c, x, y)) : ∃ p, e = .IfExp c x y p := by cases e <;> first | (cases h; done) | (cases h; exact ⟨_, rfl⟩)
theorem asTup_eq {e : Expr} {es : List Expr} (h : asTup e = some es) : ∃ n p, e = .Tuple es n p := by cases e <;> first | (cases h; done) | (cases h; exact ⟨_, _, rfl⟩)
theorem asLst_eq {e : Expr} {es : List Expr} (h : asLst e = some es) : ∃ p, e = .List es p := by cases e <;> first | (cases h; done) | (cases h; exact ⟨_, rfl⟩)
theorem asSub_eq {e : Expr} {x y : Expr} (h : asSub e = some (x, y)) : ∃ p, e = .Subscript x y p := by cases e <;> first | (cases h; done) | (cases h; exact ⟨_, rfl⟩)
theorem asSlice_eq {e : Expr} {a b c : Option Expr} (h : asSlice e = some (a, b, c)) : ∃ p, e = .Slice a b c p := by cases e <;> first | (cases h; done) | (cases h; exact ⟨_, rfl⟩)
theorem asAttr_eq {e : Expr} {x : Expr} {n : Str} {p : Pos} (h : asAttr e = some (x, n, p)) : e = .Attribute x n p := by cases e <;> first | (cases h; done) | (cases h; rfl)
theorem asCall_eq {e : Expr} {f : Expr} {es : List Expr} {p : Pos} (h : asCall e = some (f, es, p)) : e = .Call f es [] p := by
  cases e with
  | Call f' es' ks p' => cases ks <;> cases h; rfl
  | _ => cases h
theorem asComp_eq {e el t i : Expr} {ifs : List Expr} {sc : Scope} (h : asComp e = some (el, t, i, ifs, sc)) : ∃ p, e = .ListComp el [⟨t, i, ifs, 0⟩] sc p := by
  cases e with
  | ListComp e' gs sc' p' =>
    match gs, h with
    | [⟨t', i', ifs', 0⟩], h => cases h; exact ⟨_, rfl⟩
  | _ => cases h
def revB (s : Option Expr × Option Expr × Option Expr) : Bool := match s with
  | (none, none, some st) => (match asUn st with
    | some (.USub, c) => (match asConst c with
      | some (.int m) => decide (m = 1)
      | _ => false)
    | _ => false)
  | _ => false
def sl2B (s : Option Expr × Option Expr × Option Expr) : Bool := match s with
  | (none, none, some st) => (match asConst st with
    | some (.int m) => decide (m = 2)
    | _ => false)
  | _ => false
def bk1B (s : Option Expr × Option Expr × Option Expr) : Bool := match s with
  | (none, some hi, some st) => (match asConst hi with
    | some (.int z) => decide (z = 0) && (match asUn st with
      | some (.USub, c) => (match asConst c with
        | some (.int m) => decide (m = 1)
        | _ => false)
      | _ => false)
    | _ => false)
  | _ => false
def isiT (sc : Scope) (T : List String) (c : Expr) : Bool := match T with
  | [T] => (match asName c with
    | some x => decide (x = Str.ofString T) && glB sc x && clNames.contains T
    | none => false)
  | T => (match asTup c with
    | some es => tyNameB sc T es && decide (es.length ≤ 1000)
    | none => false)
def isTup : Expr → Bool
  | .Tuple _ _ _ => true
  | _ => false
/-- pairs are walked by a tuple of names -/
def tgI : IE → Expr → Bool
  | .zip _ _, t => isTup t
  | .enum _, t => isTup t
  | _, _ => true
def cmpM (op : CmpOp) (y : Expr) : Bool := !(behindInMarks op y)
def cmpB (op : CmpOp) : Bool := decide (op ≠ .In) && decide (op ≠ .NotIn)
def blkB (N : List Str) (sc scope : Scope) (vs tg : List Nat) (t i : Expr) : Bool := blkC N sc scope (ownOf N vs) && decide ((ownOf N vs).map (·.2) = vs) && chkTg N scope vs tg t && noSet i

/-- no except suite -/
def cold (fs : List String) : Bool := !fs.contains "#"
/-- built-ins that an except suite may call -/
def coolF : BF → Bool
  | .max => false | .min => false | .sum => false | .all => false | .any => false | .mnp => false | .ldc => false | .mxp => false | _ => true
/-- promises by other names: of defs that may refuse, of defs for except suites, of raised classes -/
def xKeys : List (String × String) := [("need!", "need"), ("need_holdchecker!", "need_holdchecker"), ("need_rimchecker!", "need_rimchecker"), ("need_so!", "need_so"), ("need_that!", "need_that"), ("need_full!", "need_full"), ("asks_full!", "asks_full"), ("ask_held!", "ask_held"), ("ask_left!", "ask_left"),
  ("lets_boxes!", "lets_boxes"), ("lets_common!", "lets_common"), ("lets_corners!", "lets_corners"), ("lets_fit!", "lets_fit"), ("lets_fits!", "lets_fits"), ("lets_frame!", "lets_frame"), ("lets_full!", "lets_full"), ("lets_hold!", "lets_hold"),
  ("lets_near!", "lets_near"), ("lets_never!", "lets_never"), ("lets_parting!", "lets_parting"), ("lets_turn!", "lets_turn"), ("determinant!", "determinant"), ("led!", "led"), ("led_way!", "led_way"), ("cross_of!", "cross_of"),
  ("pair_best!", "pair_best"), ("pair_bound!", "pair_bound"), ("all_best!", "all_best"), ("least_frame!", "least_frame"), ("frame_paper!", "frame_paper"), ("fit_paper!", "fit_paper"), ("common_paper!", "common_paper"),
  ("common_part!", "common_part"), ("beyond!", "beyond"), ("read_head!", "read_head"), ("read_paper!", "read_paper"), ("read_point!", "read_point"), ("read_rim!", "read_rim"), ("read_row!", "read_row"), ("read_rows!", "read_rows")]
def hKeys : List (String × String) := [("_law_refusal#", "_law_refusal"), ("_law_named#", "_law_named"), ("_law_is_number#", "_law_is_number"), ("_law_is_int#", "_law_is_int"), ("_law_is_whole#", "_law_is_whole")]
def rKeys : List (String × String) := [("NoPaper!", "NoPaper"), ("NoRim!", "NoRim"), ("NoWay!", "NoWay"), ("NoNumber!", "NoNumber"), ("NoText!", "NoText"), ("NoRow!", "NoRow")]
/-- a plain def -/
def plainK (f : String) : Bool := !(f == "#") && !(exAll.contains f) && (xKeys.lookup f).isNone && (hKeys.lookup f).isNone && (rKeys.lookup f).isNone
def exNameB (sc : Scope) (fs : List String) : List String → List Expr → Bool
  | [], [] => true
  | T :: r, .Name x _ :: es => decide (x = Str.ofString T) && glB sc x && exAll.contains T && fs.contains T && exNameB sc fs r es
  | _, _ => false
def isxT (sc : Scope) (fs : List String) (T : List String) (c : Expr) : Bool := match T with
  | [T] => (match asName c with
    | some x => decide (x = Str.ofString T) && glB sc x && exAll.contains T && fs.contains T
    | none => false)
  | T => (match asTup c with
    | some es => exNameB sc fs T es && decide (es.length ≤ 1000)
    | none => false)
def varB (N : List Str) (i : Nat) (sc : Scope) (e : Expr) : Bool := match asName e with
  | some x => decide (N[i]? = some x) && visB sc x && !(x == ("__debug__" : Str)) && !(x == ("__classdict__" : Str))
  | none => false
mutual
def chkE (N : List Str) (fs : List String) : IE → Scope → Expr → Bool
  | .var i, sc, e => (match asName e with | some x => decide (N[i]? = some x) && visB sc x && !(x == ("__debug__" : Str)) && !(x == ("__classdict__" : Str)) | none => false)
  | .int n, _, e => (match asConst e with | some (.int m) => decide (n = m) | _ => false)
  | .con f, sc, e => (match asName e with | some x => fs.contains f && conNames.contains f && decide (x = Str.ofString f) && glB sc x && !(x == ("__debug__" : Str)) | none => false)
  | .bl b, _, e => (match asConst e with | some (.bool c) => decide (b = c) | _ => false)
  | .str s, _, e => (match asConst e with | some (.str t) => decide (s = t) | _ => false)
  | .non, _, e => (match asConst e with | some .none => true | _ => false)
  | .bin op a b, sc, e => (match asBin e with | some (op', x, y) => decide (op = op') && chkE N fs a sc x && chkE N fs b sc y | none => false)
  | .neg a, sc, e => (match asUn e with | some (.USub, x) => chkE N fs a sc x | _ => false)
  | .not a, sc, e => (match asUn e with | some (.Not, x) => chkE N fs a sc x | _ => false)
  | .and a b, sc, e => (match asBool e with | some (.And, x :: y :: r, p) => chkE N fs a sc x && chkE N fs b sc (.BoolOp .And (y :: r) p) | _ => false)
  | .or a b, sc, e => (match asBool e with | some (.Or, x :: y :: r, p) => chkE N fs a sc x && chkE N fs b sc (.BoolOp .Or (y :: r) p) | _ => false)
  | .one a, sc, e => (match asBool e with | some (_, [x], _) => chkE N fs a sc x | _ => false)
  | .cmp op a b, sc, e => (match asCmp e with | some (x, [op'], [y]) => decide (op = op') && cmpM op y && chkE N fs a sc x && chkE N fs b sc y | _ => false)
  | .chn op op' a b c, sc, e => (match asCmp e with | some (x, [o1, o2], [y, z]) => decide (op = o1) && decide (op' = o2) && cmpB op && cmpB op' && chkE N fs a sc x && chkE N fs b sc y && chkE N fs c sc z | _ => false)
  | .ch3 p1 p2 p3 a b c d, sc, e => (match asCmp e with | some (x, [o1, o2, o3], [y, z, u]) => decide (p1 = o1) && decide (p2 = o2) && decide (p3 = o3) && cmpB p1 && cmpB p2 && cmpB p3 && chkE N fs a sc x && chkE N fs b sc y && chkE N fs c sc z && chkE N fs d sc u | _ => false)
  | .ite t a b, sc, e => (match asIfE e with | some (c, x, y) => chkT N fs t sc c && chkE N fs a sc x && chkE N fs b sc y | none => false)
  | .tup xs, sc, e => (match asTup e with | some es => chkA N fs xs sc es | none => false)
  | .lst xs, sc, e => (match asLst e with | some es => chkA N fs xs sc es | none => false)
  | .ix a i, sc, e => (match asSub e with | some (x, y) => noSlice y && chkE N fs a sc x && chkE N fs i sc y | none => false)
  | .sl a lo hi, sc, e => (match asSub e with | some (x, y) => (match asSlice y with | some (l, h, none) => chkE N fs a sc x && chkO N fs lo sc l && chkO N fs hi sc h | _ => false) | none => false)
  | .rev a, sc, e => (match asSub e with | some (x, y) => (match asSlice y with | some s => revB s && chkE N fs a sc x | none => false) | none => false)
  | .sl2 a, sc, e => (match asSub e with | some (x, y) => (match asSlice y with | some s => sl2B s && chkE N fs a sc x | none => false) | none => false)
  | .bk1 a, sc, e => (match asSub e with | some (x, y) => (match asSlice y with | some s => bk1B s && chkE N fs a sc x | none => false) | none => false)
  | .srt a, sc, e => (match asCall e with | some (g, [y], _) => (match asName g with | some x => (match asCall y with | some (g2, [z], _) => (match asName g2 with | some x2 => decide (x = Str.ofString "sorted") && decide (x2 = Str.ofString "set") && glB sc x && glB sc x2 && cold fs && noStar z && chkE N fs a sc z | none => false) | _ => false) | none => false) | _ => false)
  | .lzip a b, sc, e => (match asCall e with | some (g, [y], _) => (match asName g with | some x => (match asCall y with | some (g2, [z, u], _) => (match asName g2 with | some x2 => decide (x = Str.ofString "list") && decide (x2 = Str.ofString "zip") && glB sc x && glB sc x2 && cold fs && noStar z && noStar u && chkE N fs a sc z && chkE N fs b sc u | none => false) | _ => false) | none => false) | _ => false)
  | .isi a T, sc, e => (match asCall e with | some (f, [x, c], _) => (match asName f with | some n => decide (n = Str.ofString "isinstance") && glB sc n && noStar x && isiT sc T c && chkE N fs a sc x | none => false) | _ => false)
  | .blt f xs, sc, e => (match asCall e with | some (g, es, _) => (match asName g with | some x => !(f == .sset) && decide (x = Str.ofString (bfName f)) && glB sc x && (cold fs || coolF f) && chkA N fs xs sc es | none => false) | _ => false)
  | .mth m o xs, sc, e => (match asCall e with | some (g, es, cp) => (match asAttr g with | some (x, n, ap) => decide (n = Str.ofString (mfName m)) && baseB x && decide (ap.endLine = cp.line) && decide (es.length ≤ 2) && (m == .append || m == .pop || m == .extend || m == .insert || m == .index || m == .count || m == .reverse) && chkE N fs o sc x && chkA N fs xs sc es | none => false) | _ => false)
  | .call f xs, sc, e => (match asCall e with | some (g, es, _) => (match asName g with | some x => fs.contains f && !(conNames.contains f) && cold fs && plainK f && decide (x = Str.ofString f) && glB sc x && !(x == ("__debug__" : Str)) && chkA N fs xs sc es | none => false) | _ => false)
  | .comp elt vs tg it cond, sc, e => (match asComp e with | some (el, t, i, ifs, scope) => cold fs && blkB N sc scope vs tg t i && (tgI it t && chkI N fs it sc i) && chkC N fs cond (relS scope sc) ifs && chkE N fs elt (relS scope sc) el | none => false)
  | .compd elt vs tg i cond, sc, e => (match asComp e with | some (el, t, it, ifs, scope) => cold fs && blkB N sc scope vs tg t it && varB N i sc it && chkC N fs cond (relS scope sc) ifs && chkE N fs elt (relS scope sc) el | none => false)
  | .mxd a, sc, e => (match asCallK e with | some (g, y, kws, _) => (match asName g with | some x => decide (x = Str.ofString "max") && glB sc x && cold fs && noStar y && dflB kws && chkE N fs a sc y | none => false) | _ => false)
  | .dnew, _, e => isDct e
  | .dsd o xs, sc, e => (match asCall e with | some (g, es, cp) => (match asAttr g with | some (x, n, ap) => decide (n = Str.ofString "setdefault") && baseB x && decide (ap.endLine = cp.line) && decide (es.length = 2) && chkE N fs o sc x && chkA N fs xs sc es | none => false) | _ => false)
  | .isx a T, sc, e => (match asCall e with | some (f, [x, c], _) => (match asName f with | some n => decide (n = Str.ofString "isinstance") && glB sc n && noStar x && isxT sc fs T c && chkE N fs a sc x | none => false) | _ => false)
  | .fld a n, sc, e => (match asAttr e with | some (x, m, _) => decide (m = Str.ofString n) && baseB x && chkE N fs a sc x | none => false)
  | .calh f xs, sc, e => (match asCall e with | some (g, es, _) => (match asName g with | some x => fs.contains f && !(conNames.contains f) && (match hKeys.lookup f with | some r => decide (x = Str.ofString r) && !(x == ("__debug__" : Str)) | none => false) && glB sc x && chkA N fs xs sc es | none => false) | _ => false)
  | .xcl f xs, sc, e => (match asCall e with | some (g, es, _) => (match asName g with | some x => cold fs && fs.contains f && (match xKeys.lookup f with | some r => decide (x = Str.ofString r) && !(x == ("__debug__" : Str)) | none => false) && glB sc x && chkA N fs xs sc es | none => false) | _ => false)
  | _, _, _ => false
def chkT (N : List Str) (fs : List String) : IE → Scope → Expr → Bool
  | .not a, sc, e => (match asUn e with | some (.Not, x) => chkT N fs a sc x | _ => false)
  | .and a b, sc, e => (match asBool e with | some (.And, x :: y :: r, p) => chkT N fs a sc x && chkT N fs b sc (.BoolOp .And (y :: r) p) | _ => false)
  | .or a b, sc, e => (match asBool e with | some (.Or, x :: y :: r, p) => chkT N fs a sc x && chkT N fs b sc (.BoolOp .Or (y :: r) p) | _ => false)
  | .one a, sc, e => (match asBool e with | some (_, [x], _) => chkT N fs a sc x | _ => false)
  | .cmp op a b, sc, e => (match asCmp e with | some (x, [op'], [y]) => decide (op = op') && cmpM op y && chkE N fs a sc x && chkE N fs b sc y | _ => false)
  | .chn op op' a b c, sc, e => (match asCmp e with | some (x, [o1, o2], [y, z]) => decide (op = o1) && decide (op' = o2) && cmpB op && cmpB op' && chkE N fs a sc x && chkE N fs b sc y && chkE N fs c sc z | _ => false)
  | .ch3 p1 p2 p3 a b c d, sc, e => (match asCmp e with | some (x, [o1, o2, o3], [y, z, u]) => decide (p1 = o1) && decide (p2 = o2) && decide (p3 = o3) && cmpB p1 && cmpB p2 && cmpB p3 && chkE N fs a sc x && chkE N fs b sc y && chkE N fs c sc z && chkE N fs d sc u | _ => false)
  | .var i, sc, e => (match asName e with | some x => decide (N[i]? = some x) && visB sc x && !(x == ("__debug__" : Str)) && !(x == ("__classdict__" : Str)) | none => false)
  | .isi a T, sc, e => (match asCall e with | some (f, [x, c], _) => (match asName f with | some n => decide (n = Str.ofString "isinstance") && glB sc n && noStar x && isiT sc T c && chkE N fs a sc x | none => false) | _ => false)
  | .blt f xs, sc, e => (match asCall e with | some (g, es, _) => (match asName g with | some x => !(f == .sset) && decide (x = Str.ofString (bfName f)) && glB sc x && (cold fs || coolF f) && chkA N fs xs sc es | none => false) | _ => false)
  | .call f xs, sc, e => (match asCall e with | some (g, es, _) => (match asName g with | some x => fs.contains f && !(conNames.contains f) && cold fs && plainK f && decide (x = Str.ofString f) && glB sc x && !(x == ("__debug__" : Str)) && chkA N fs xs sc es | none => false) | _ => false)
  | .isx a T, sc, e => (match asCall e with | some (f, [x, c], _) => (match asName f with | some n => decide (n = Str.ofString "isinstance") && glB sc n && noStar x && isxT sc fs T c && chkE N fs a sc x | none => false) | _ => false)
  | .calh f xs, sc, e => (match asCall e with | some (g, es, _) => (match asName g with | some x => fs.contains f && !(conNames.contains f) && (match hKeys.lookup f with | some r => decide (x = Str.ofString r) && !(x == ("__debug__" : Str)) | none => false) && glB sc x && chkA N fs xs sc es | none => false) | _ => false)
  | .ix a i, sc, e => (match asSub e with | some (x, y) => noSlice y && chkE N fs a sc x && chkE N fs i sc y | none => false)
  | _, _, _ => false
def chkA (N : List Str) (fs : List String) : IE → Scope → List Expr → Bool
  | .nil, _, [] => true
  | .cons a r, sc, e :: es => noStar e && chkE N fs a sc e && chkA N fs r sc es
  | _, _, _ => false
def chkC (N : List Str) (fs : List String) : IE → Scope → List Expr → Bool
  | .nil, _, [] => true
  | .cons a _, sc, [e] => chkT N fs a sc e
  | _, _, _ => false
def chkO (N : List Str) (fs : List String) : IE → Scope → Option Expr → Bool
  | .nil, _, none => true
  | .cons a _, sc, some e => chkE N fs a sc e
  | _, _, _ => false
def chkI (N : List Str) (fs : List String) : IE → Scope → Expr → Bool
  | .rng1 a, sc, e => (match asCall e with | some (g, [x], _) => (match asName g with | some n => decide (n = Str.ofString "range") && glB sc n && noStar x && chkE N fs a sc x | none => false) | _ => false)
  | .rng2 a b, sc, e => (match asCall e with | some (g, [x, y], _) => (match asName g with | some n => decide (n = Str.ofString "range") && glB sc n && noStar x && noStar y && chkE N fs a sc x && chkE N fs b sc y | none => false) | _ => false)
  | .enum a, sc, e => (match asCall e with | some (g, [x], _) => (match asName g with | some n => decide (n = Str.ofString "enumerate") && glB sc n && noStar x && chkE N fs a sc x | none => false) | _ => false)
  | .zip a b, sc, e => (match asCall e with | some (g, [x, y], _) => (match asName g with | some n => decide (n = Str.ofString "zip") && glB sc n && noStar x && noStar y && chkE N fs a sc x && chkE N fs b sc y | none => false) | _ => false)
  | .cons a _, sc, e => chkE N fs a sc e
  | _, _, _ => false
end
mutual
def chkX (N : List Str) (fs : List String) : IE → Scope → Expr → Bool
  | .xcl f xs, sc, e => (match asCall e with | some (g, es, _) => (match asName g with | some x => cold fs && fs.contains f && (match xKeys.lookup f with | some r => decide (x = Str.ofString r) && !(x == ("__debug__" : Str)) | none => false) && glB sc x && chkXA N fs xs sc es | none => false) | _ => false)
  | .bin op a b, sc, e => (match asBin e with | some (op', x, y) => decide (op = op') && chkX N fs a sc x && chkX N fs b sc y | none => false)
  | .not a, sc, e => (match asUn e with | some (.Not, x) => chkX N fs a sc x | _ => false)
  | .cmp op a b, sc, e => (match asCmp e with | some (x, [op'], [y]) => decide (op = op') && cmpM op y && chkX N fs a sc x && chkX N fs b sc y | _ => false)
  | .ite t a b, sc, e => (match asIfE e with | some (c, x, y) => chkXT N fs t sc c && chkX N fs a sc x && chkX N fs b sc y | none => false)
  | .tup xs, sc, e => (match asTup e with | some es => chkXA N fs xs sc es | none => false)
  | .blt f xs, sc, e => (match asCall e with | some (g, es, _) => (match asName g with | some x => !(f == .sset) && decide (x = Str.ofString (bfName f)) && glB sc x && (cold fs || coolF f) && chkXA N fs xs sc es | none => false) | _ => false)
  | .call f xs, sc, e => (match asCall e with | some (g, es, _) => (match asName g with | some x => fs.contains f && !(conNames.contains f) && cold fs && plainK f && decide (x = Str.ofString f) && glB sc x && !(x == ("__debug__" : Str)) && chkXA N fs xs sc es | none => false) | _ => false)
  | a, sc, e => chkE N fs a sc e
def chkXT (N : List Str) (fs : List String) : IE → Scope → Expr → Bool
  | .cmp op a b, sc, e => (match asCmp e with | some (x, [op'], [y]) => decide (op = op') && cmpM op y && chkX N fs a sc x && chkX N fs b sc y | _ => false)
  | .not a, sc, e => (match asUn e with | some (.Not, x) => chkXT N fs a sc x | _ => false)
  | a, sc, e => chkT N fs a sc e
def chkXA (N : List Str) (fs : List String) : IE → Scope → List Expr → Bool
  | .nil, _, [] => true
  | .cons a r, sc, e :: es => noStar e && chkX N fs a sc e && chkXA N fs r sc es
  | _, _, _ => false
end
end DL

set_option Elab.async false
set_option linter.all false
set_option maxRecDepth 100000
set_option maxHeartbeats 4000000
namespace DL
open PySem L2 PySem.Spec PyProof.Rows

abbrev LfB (K : Frg) (H : Hp) (A : List Addr) (Q : Bool → Mem → Prop) (κ : Bool → Hp → Prop) : Prop := ∀ d M' H' A', Q d M' → Stp H A H' A' → Rm K H' A' M' → κ d H'
abbrev LfO (K : Frg) (H : Hp) (A : List Addr) (Q : Option Int → Mem → Prop) (κ : Option Int → Hp → Prop) : Prop := ∀ d M' H' A', Q d M' → Stp H A H' A' → Rm K H' A' M' → κ d H'
abbrev LfA (K : Frg) (H : Hp) (A : List Addr) (Q : List D → Mem → Prop) (κ : List V → Hp → Prop) : Prop := ∀ ds M' vs H' A', Q ds M' → Stp H A H' A' → Rm K H' A' M' → RpL K H' A' vs ds → κ vs H'
structure Rs (K : Frg) (H : Hp) (A : List Addr) (σ : L2.St) (ρ : En) : Prop where
  len : σ.length = ρ.length
  get : ∀ i d, getV ρ i = some d → ∃ v, σ[i]? = some (some v) ∧ Rp K H A v d
theorem Rs.stp {K : Frg} {H H' : Hp} {A A' : List Addr} {M : Mem} {σ : L2.St} {ρ : En} (r : Rs K H A σ ρ) (m : Rm K H A M) (s : Stp H A H' A') : Rs K H' A' σ ρ :=
  ⟨r.len, fun i d e => let ⟨v, h, q⟩ := r.get i d e; ⟨v, h, q.stp m s⟩⟩

def rdE (G : Gam) (K : Frg) (ie : IE) : TE := fun σ H κ => ∃ A ρ M Q, Rs K H A σ ρ ∧ Rm K H A M ∧ wpE G ie ρ M Q ∧ Lf K H A Q κ
def rdT (G : Gam) (K : Frg) (ie : IE) : TT := fun σ H κ => ∃ A ρ M Q, Rs K H A σ ρ ∧ Rm K H A M ∧ wpT G ie ρ M Q ∧ LfB K H A Q κ
def rdC (G : Gam) (K : Frg) (ie : IE) : TT := fun σ H κ => ∃ A ρ M Q, Rs K H A σ ρ ∧ Rm K H A M ∧ wpC G ie ρ M Q ∧ LfB K H A Q κ
def rdO (G : Gam) (K : Frg) (ie : IE) : TO := fun σ H κ => ∃ A ρ M Q, Rs K H A σ ρ ∧ Rm K H A M ∧ wpO G ie ρ M Q ∧ LfO K H A Q κ
def rdA (G : Gam) (K : Frg) (ie : IE) : TA := fun σ H κ => ∃ A ρ M Q, Rs K H A σ ρ ∧ Rm K H A M ∧ wpA G ie ρ M Q ∧ LfA K H A Q κ
/-- an iterator that walks what the source holds -/
structure ItR (K : Frg) (H1 : Hp) (A1 : List Addr) (src : Src) (J : It) : Prop where
  go : ∀ H A M xs (i : Nat) x, Stp H1 A1 H A → Rm K H A M → items M src = some xs → xs[i]? = some x → J.go i H
  stop : ∀ H A M xs (i : Nat), Stp H1 A1 H A → Rm K H A M → items M src = some xs → xs.length ≤ i → J.stop i H
  yld : ∀ H A M xs (i : Nat) x v H', Stp H1 A1 H A → Rm K H A M → items M src = some xs → xs[i]? = some x → J.yld i H v H' → Stp H A H' A ∧ Rm K H' A M ∧ Rp K H' A v x
def rdI (G : Gam) (K : Frg) (ie : IE) : TI := fun σ H R => ∃ A ρ M Q, Rs K H A σ ρ ∧ Rm K H A M ∧ wpI G ie ρ M Q ∧ ∀ src M' H' A' J, Q src M' → Stp H A H' A' → Rm K H' A' M' → ItR K H' A' src J → (∃ xs, items M' src = some xs) → R J H'

theorem _root_.L2.PE.weak {X : Cx} {e : Expr} {t t' : TE} (h : PE X e t) (w : ∀ σ H κ, t' σ H κ → t σ H κ) : PE X e t' := ⟨fun pins s σ H κ I q => h.run pins s σ H κ I (w σ H κ q)⟩
theorem _root_.L2.PT.weak {X : Cx} {e : Expr} {t t' : TT} (h : PT X e t) (w : ∀ σ H κ, t' σ H κ → t σ H κ) : PT X e t' := ⟨fun pins s σ H κ I q => h.run pins s σ H κ I (w σ H κ q)⟩
theorem _root_.L2.PW.weak {X : Cx} {e : Expr} {t t' : TT} (h : PW X e t) (w : ∀ σ H κ, t' σ H κ → t σ H κ) : PW X e t' := ⟨fun wh pins s σ H κ I q => h.run wh pins s σ H κ I (w σ H κ q)⟩
theorem _root_.L2.PTs.weak {X : Cx} {e : List Expr} {t t' : TT} (h : PTs X e t) (w : ∀ σ H κ, t' σ H κ → t σ H κ) : PTs X e t' := ⟨fun pins s σ H κ I q => h.run pins s σ H κ I (w σ H κ q)⟩
theorem _root_.L2.PA.weak {X : Cx} {e : List Expr} {t t' : TA} (h : PA X e t) (w : ∀ σ H κ, t' σ H κ → t σ H κ) : PA X e t' := ⟨fun pos pins s σ H κ I q => h.run pos pins s σ H κ I (w σ H κ q)⟩
theorem _root_.L2.PO.weak {X : Cx} {e : Option Expr} {t t' : TO} (h : PO X e t) (w : ∀ σ H κ, t' σ H κ → t σ H κ) : PO X e t' := ⟨fun pins s σ H κ I q => h.run pins s σ H κ I (w σ H κ q)⟩
theorem _root_.L2.PI.weak {X : Cx} {tg e : Expr} {t t' : TI} (h : PI X tg e t) (w : ∀ σ H κ, t' σ H κ → t σ H κ) : PI X tg e t' := ⟨fun pins s σ H κ I q => h.run pins s σ H κ I (w σ H κ q)⟩

/-! defs -/
structure FnG (P : Program) (w : World) (K : Frg) (mg : Str → Option Value) (base : Heap) (k : Nat) (f : Addr) (fd : FuncData) (ps : List Str) (S : DSpec) : Prop where
  len : ∀ ds M Q, S ds M Q → ds.length = ps.length
  run : ∀ (A : Around) (outer : List Env) (s : Shared) (H : Hp) (args : Args) (us : List Value) (vs : List V) (Ad : List Addr) (ds : List D) (M : Mem) (Q : Kn) (κ : VK),
    A.guards = some [] → Room k A → Env0 P w K mg base A outer s H → BindsTo s fd args (ps.zip us) → Vals vs us → RpL K H Ad vs ds → Rm K H Ad M → S ds M Q → Lf K H Ad Q κ →
    codeAny (model P w) A (.call (.ref f) args) (CR CX0 outer P w H s κ E0) s
/-- a refusal in flight -/
def ExR (K : Frg) (H : Hp) (A : List Addr) (cls : Value) (d : Option Addr) (c : String) (fs : List D) : Prop :=
  XcA K c ∧ ∃ dx vs, cls = .ref (clsA K c) ∧ d = some dx ∧ H dx = some (.xd ((xFlds c).zip vs).reverse) ∧ vs.length = (xFlds c).length ∧ RpL K H A vs fs
abbrev LfE (K : Frg) (H : Hp) (A : List Addr) (Q : Kn) (E : XK) : Prop := ∀ c fs M' H' A' cls d, Q (.exn c fs) M' → Stp H A H' A' → Rm K H' A' M' → ExR K H' A' cls d c fs → E cls d H'
/-- room, whatever is handled -/
structure RoomQ (k : Nat) (A : Around) : Prop where
  dp : A.depth + 3 * k + 5 < recursionLimit
  un : A.units + 16 * k + 200 < cLine
theorem RoomQ.room {k : Nat} {A : Around} (r : RoomQ k A) (h : A.handled = none) : Room k A := ⟨h, r.dp, r.un⟩
theorem RoomQ.of {k : Nat} {A : Around} (r : Room k A) : RoomQ k A := ⟨r.dp, r.un⟩
theorem RoomQ.mono {j k : Nat} {A : Around} (r : RoomQ k A) (h : j ≤ k) : RoomQ j A := ⟨by have := r.dp; omega, by have := r.un; omega⟩
theorem RoomQ.deeper {k : Nat} {A : Around} (r : RoomQ (k + 1) A) (env : Env) : RoomQ k (A.deeper env) :=
  ⟨by have := r.dp; show A.depth + 1 + 3 * k + 5 < _; omega, by have := r.un; show A.units + 3 + 16 * k + 200 < _; omega⟩
/-- a def that an except suite may call -/
structure FnGH (P : Program) (w : World) (K : Frg) (mg : Str → Option Value) (base : Heap) (k : Nat) (f : Addr) (fd : FuncData) (ps : List Str) (S : DSpec) : Prop where
  len : ∀ ds M Q, S ds M Q → ds.length = ps.length
  run : ∀ (A : Around) (outer : List Env) (s : Shared) (H : Hp) (args : Args) (us : List Value) (vs : List V) (Ad : List Addr) (ds : List D) (M : Mem) (Q : Kn) (κ : VK),
    A.guards = some [] → RoomQ k A → Env0 P w K mg base A outer s H → BindsTo s fd args (ps.zip us) → Vals vs us → RpL K H Ad vs ds → Rm K H Ad M → S ds M Q → Lf K H Ad Q κ →
    codeAny (model P w) A (.call (.ref f) args) (CR CX0 outer P w H s κ E0) s
/-- a def that may refuse -/
structure FnGX (P : Program) (w : World) (K : Frg) (mg : Str → Option Value) (base : Heap) (k : Nat) (f : Addr) (fd : FuncData) (ps : List Str) (S : DSpec) : Prop where
  len : ∀ ds M Q, S ds M Q → ds.length = ps.length
  run : ∀ (A : Around) (outer : List Env) (s : Shared) (H : Hp) (args : Args) (us : List Value) (vs : List V) (Ad : List Addr) (ds : List D) (M : Mem) (Q : Kn) (κ : VK) (E : XK),
    A.guards = some [] → Room k A → Env0 P w K mg base A outer s H → BindsTo s fd args (ps.zip us) → Vals vs us → RpL K H Ad vs ds → Rm K H Ad M → S ds M Q → Lf K H Ad Q κ → LfE K H Ad Q E →
    codeAny (model P w) A (.call (.ref f) args) (CR (L2.CX P w) outer P w H s κ E) s
structure FnD (G : Gam) (P : Program) (w : World) (K : Frg) (mg : Str → Option Value) (base : Heap) (k : Nat) (f : String) : Prop where
  ex : ∃ addr fd ps, mg (Str.ofString f) = some (.ref addr) ∧ PySem.W.keepIn K (.ref addr) = true ∧ Binds K fd ps [] ∧ FnG P w K mg base k addr fd ps (G f)
structure FnDH (G : Gam) (P : Program) (w : World) (K : Frg) (mg : Str → Option Value) (base : Heap) (k : Nat) (f r : String) : Prop where
  ex : ∃ addr fd ps, mg (Str.ofString r) = some (.ref addr) ∧ PySem.W.keepIn K (.ref addr) = true ∧ Binds K fd ps [] ∧ FnGH P w K mg base k addr fd ps (G f)
structure FnDX (G : Gam) (P : Program) (w : World) (K : Frg) (mg : Str → Option Value) (base : Heap) (k : Nat) (f r : String) : Prop where
  ex : ∃ addr fd ps, mg (Str.ofString r) = some (.ref addr) ∧ PySem.W.keepIn K (.ref addr) = true ∧ Binds K fd ps [] ∧ FnGX P w K mg base k addr fd ps (G f)
/-- a class that is asked for -/
structure ExC (K : Frg) (mg : Str → Option Value) (d : String) : Prop where
  ok : okCls K d = true
  no : PySem.W.kitOne K (.type "NoneType") (clsX K d) = some false
  own : d ≠ "ValueError" → mg (Str.ofString d) = some (.ref (clsA K d))
  bi : d = "ValueError" → mg (Str.ofString d) = none
/-- a class that is raised -/
structure RsC (P : Program) (w : World) (K : Frg) (mg : Str → Option Value) (base : Heap) (k : Nat) (c : String) : Prop where
  a : XcA K c
  g : mg (Str.ofString c) = some (.ref (clsA K c))
  i : ∃ j fd ps, j + 1 ≤ k ∧ Binds K fd ps [] ∧ FnOk P w K mg base CX0 j (He.fAd K (Str.ofString c, some "__init__")) fd ps (spInit K c)
/-- a constant of the module -/
structure CoD (G : Gam) (K : Frg) (mg : Str → Option Value) (f : String) : Prop where
  ex : ∃ (d : D) (v : V) (u : Value), mg (Str.ofString f) = some u ∧ G f = S_con d ∧ RelV v u ∧ ∀ (H : Hp) (A : List Addr), Rp K H A v d
/-- a def or a constant -/
structure FnC (G : Gam) (P : Program) (w : World) (K : Frg) (mg : Str → Option Value) (base : Heap) (k : Nat) (f : String) : Prop where
  fn : conNames.contains f = false → plainK f = true → FnD G P w K mg base k f
  cn : conNames.contains f = true → CoD G K mg f
  hn : ∀ r, hKeys.lookup f = some r → FnDH G P w K mg base k f r
  xn : ∀ r, xKeys.lookup f = some r → FnDX G P w K mg base k f r
  en : exAll.contains f = true → ExC K mg f
  rn : ∀ c, rKeys.lookup f = some c → RsC P w K mg base k c
section
variable {G : Gam} {P : Program} {w : World} {K : Frg} {mg : Str → Option Value} {base : Heap} {k : Nat} {f r : String}
theorem plainK_no (h : plainK f = true) : (∀ r, hKeys.lookup f ≠ some r) ∧ (∀ r, xKeys.lookup f ≠ some r) ∧ exAll.contains f = false ∧ ∀ r, rKeys.lookup f ≠ some r := by
  unfold plainK at h
  simp only [Bool.and_eq_true, Bool.not_eq_true', Option.isNone_iff_eq_none] at h
  obtain ⟨⟨⟨⟨h1, h2⟩, h3⟩, h4⟩, h5⟩ := h
  refine ⟨fun r e => ?_, fun r e => ?_, h2, fun r e => ?_⟩
  · rw [h4] at e; cases e
  · rw [h3] at e; cases e
  · rw [h5] at e; cases e
theorem FnC.def_ (h : FnD G P w K mg base k f) (e : conNames.contains f = false) (e2 : plainK f = true := by decide +kernel) : FnC G P w K mg base k f :=
  ⟨fun _ _ => h, fun h' => (by rw [e] at h'; cases h'), fun r z => ((plainK_no e2).1 r z).elim, fun r z => ((plainK_no e2).2.1 r z).elim, fun z => (by rw [(plainK_no e2).2.2.1] at z; cases z), fun r z => ((plainK_no e2).2.2.2 r z).elim⟩
/-- the mark of an except suite -/
theorem FnC.hash : FnC G P w K mg base k "#" :=
  ⟨fun _ h => absurd h (by decide +kernel), fun h => absurd h (by decide +kernel), fun r z => absurd z (by rw [show hKeys.lookup "#" = none by decide +kernel]; exact fun z => nomatch z), fun r z => absurd z (by rw [show xKeys.lookup "#" = none by decide +kernel]; exact fun z => nomatch z),
    fun h => absurd h (by decide +kernel), fun r z => absurd z (by rw [show rKeys.lookup "#" = none by decide +kernel]; exact fun z => nomatch z)⟩
end
structure Good (G : Gam) (fs : List String) (k : Nat) (X : Cx) : Prop where
  calm : cold fs = true → X.calm = true
  nd : X.N.Nodup
  gd : X.A.guards = some []
  room : RoomQ k X.A
  bi : ∀ x ∈ bNames, X.mg (Str.ofString x) = none
  fn : ∀ f ∈ fs, FnC G X.prog X.w X.K X.mg X.base k f

section
variable {X : Cx} {G : Gam} {fs : List String} {k : Nat} {pos p : Pos}
theorem Good.un (g : Good G fs k X) : X.A.units + 64 < cLine := by have := g.room.un; omega
theorem Good.un2 (g : Good G fs k X) : X.A.units + 65 < cLine := by have := g.room.un; omega
theorem s_var {i : Nat} {x : Str} (hN : X.N[i]? = some x) (hv : visB X.env.scope x = true) (h1 : (x == ("__debug__" : Str)) = false) (h2 : (x == ("__classdict__" : Str)) = false) : PE X (.Name x pos) (rdE G X.K (.var i)) := by
  refine (pe_var hN ?_ h1 h2).weak fun σ H κ ⟨A, ρ, M, Q, hs, hm, hw, hl⟩ => ?_
  · unfold visB at hv
    split at hv <;> first | exact .inl (by assumption) | exact .inr (.inl (by assumption)) | exact .inr (.inr (by assumption)) | cases hv
  · have hw' : onV (getV ρ i) fun d => Q d M := hw
    cases e : getV ρ i with
    | none => rw [e] at hw'; exact hw'.elim
    | some d =>
      rw [e] at hw'
      obtain ⟨v, h, r⟩ := hs.get i d e
      exact ⟨v, h, hl.now hm r hw'⟩
variable {x y z : Expr} {a b c : IE}
theorem s_bin {op : Operator} (ha : PE X x (rdE G X.K a)) (hb : PE X y (rdE G X.K b)) : PE X (.BinOp x op y pos) (rdE G X.K (.bin op a b)) :=
  (pe_op (opD_bin op) ha hb).weak fun σ H κ ⟨A, ρ, M, Q, hs, hm, hw, hl⟩ => ⟨A, ρ, M, _, hs, hm, hw, fun d1 M1 v1 H1 A1 q1 s1 m1 r1 =>
    ⟨A1, ρ, M1, _, hs.stp hm s1, m1, q1, fun d2 M2 v2 H2 A2 q2 s2 m2 r2 => ⟨A2, M2, d1, d2, _, r1.stp m1 s2, r2, m2, q2, (hl.stp s1).stp s2⟩⟩⟩
theorem s_neg (ha : PE X x (rdE G X.K a)) : PE X (.UnaryOp .USub x pos) (rdE G X.K (.neg a)) :=
  (pe_un un_neg ha).weak fun σ H κ ⟨A, ρ, M, Q, hs, hm, hw, hl⟩ => ⟨A, ρ, M, _, hs, hm, hw, fun d1 M1 v1 H1 A1 ⟨i, e, q1⟩ s1 m1 r1 => by
    subst e; cases r1; exact ⟨i, rfl, (hl.stp s1).int m1 q1⟩⟩
theorem s_not (ha : PE X x (rdE G X.K a)) : PE X (.UnaryOp .Not x pos) (rdE G X.K (.not a)) :=
  (pe_not ha).weak fun σ H κ ⟨A, ρ, M, Q, hs, hm, hw, hl⟩ => ⟨A, ρ, M, _, hs, hm, hw, fun d1 M1 v1 H1 A1 ⟨i, e, q1⟩ s1 m1 r1 => by
    subst e; cases r1; exact ⟨i, rfl, (hl.stp s1).bl m1 q1⟩⟩
theorem s_and {r : List Expr} (ha : PE X x (rdE G X.K a)) (hb : PE X (.BoolOp .And (y :: r) pos) (rdE G X.K b)) : PE X (.BoolOp .And (x :: y :: r) pos) (rdE G X.K (.and a b)) :=
  (pe_and ha hb).weak fun σ H κ ⟨A, ρ, M, Q, hs, hm, hw, hl⟩ => ⟨A, ρ, M, _, hs, hm, hw, fun d1 M1 v1 H1 A1 ⟨i, e, q1⟩ s1 m1 r1 => by
    subst e; cases r1
    refine ⟨i, rfl, ?_⟩
    cases i with
    | true => exact ⟨A1, ρ, M1, Q, hs.stp hm s1, m1, q1, hl.stp s1⟩
    | false => exact (hl.stp s1).bl m1 q1⟩
theorem s_or {r : List Expr} (ha : PE X x (rdE G X.K a)) (hb : PE X (.BoolOp .Or (y :: r) pos) (rdE G X.K b)) : PE X (.BoolOp .Or (x :: y :: r) pos) (rdE G X.K (.or a b)) :=
  (pe_or ha hb).weak fun σ H κ ⟨A, ρ, M, Q, hs, hm, hw, hl⟩ => ⟨A, ρ, M, _, hs, hm, hw, fun d1 M1 v1 H1 A1 ⟨i, e, q1⟩ s1 m1 r1 => by
    subst e; cases r1
    refine ⟨i, rfl, ?_⟩
    cases i with
    | false => exact ⟨A1, ρ, M1, Q, hs.stp hm s1, m1, q1, hl.stp s1⟩
    | true => exact (hl.stp s1).bl m1 q1⟩
theorem s_one {op : BoolOp} (ha : PE X x (rdE G X.K a)) : PE X (.BoolOp op [x] pos) (rdE G X.K (.one a)) := (pe_one ha).weak fun σ H κ h => h
theorem s_cmp {op : CmpOp} (g : Good G fs k X) (h1 : behindInMarks op y = false) (ha : PE X x (rdE G X.K a)) (hb : PE X y (rdE G X.K b)) : PE X (.Compare x [op] [y] pos) (rdE G X.K (.cmp op a b)) :=
  (pe_cmpR (opD_cmpA op g.un2) ha hb h1).weak fun σ H κ ⟨A, ρ, M, Q, hs, hm, hw, hl⟩ => ⟨A, ρ, M, _, hs, hm, hw, fun d1 M1 v1 H1 A1 q1 s1 m1 r1 =>
    ⟨A1, ρ, M1, _, hs.stp hm s1, m1, q1, fun d2 M2 v2 H2 A2 q2 s2 m2 r2 => ⟨A2, M2, d1, d2, _, r1.stp m1 s2, r2, m2, q2, (hl.stp s1).stp s2⟩⟩⟩
theorem t_cmp {op : CmpOp} (g : Good G fs k X) (h1 : behindInMarks op y = false) (ha : PE X x (rdE G X.K a)) (hb : PE X y (rdE G X.K b)) : PT X (.Compare x [op] [y] pos) (rdT G X.K (.cmp op a b)) :=
  (pt_cmpR (opD_cmpA op g.un2) ha hb h1).weak fun σ H κ ⟨A, ρ, M, Q, hs, hm, hw, hl⟩ => ⟨A, ρ, M, _, hs, hm, hw, fun d1 M1 v1 H1 A1 q1 s1 m1 r1 =>
    ⟨A1, ρ, M1, _, hs.stp hm s1, m1, q1, fun d2 M2 v2 H2 A2 q2 s2 m2 r2 => ⟨A2, M2, d1, d2, _, r1.stp m1 s2, r2, m2, q2, fun d3 M3 v3 H3 A3 ⟨i, e, q3⟩ s3 m3 r3 => by
      subst e; cases r3
      exact ⟨i, rfl, hl i M3 H3 A3 q3 ((s1.trans s2).trans s3) m3⟩⟩⟩⟩
theorem s_chn {op op' : CmpOp} (g : Good G fs k X) (h1 : op ≠ .In) (h2 : op ≠ .NotIn) (h3 : op' ≠ .In) (h4 : op' ≠ .NotIn) (ha : PE X x (rdE G X.K a)) (hb : PE X y (rdE G X.K b)) (hc : PE X z (rdE G X.K c)) :
    PE X (.Compare x [op, op'] [y, z] pos) (rdE G X.K (.chn op op' a b c)) := by
  refine (pe_chain (opD_cmp op g.un ⟨h1, h2⟩) (opD_cmp op' g.un ⟨h3, h4⟩) ha hb hc (nomark _ h3 h4)).weak fun σ H κ ⟨A, ρ, M, Q, hs, hm, hw, hl⟩ => ⟨A, ρ, M, _, hs, hm, hw, fun d1 M1 v1 H1 A1 q1 s1 m1 r1 =>
    ⟨A1, ρ, M1, _, hs.stp hm s1, m1, q1, fun d2 M2 v2 H2 A2 q2 s2 m2 r2 => ⟨A2, M2, d1, d2, _, r1.stp m1 s2, r2, m2, q2, fun d3 M3 v3 H3 A3 ⟨i, e, q3⟩ s3 m3 r3 => ?_⟩⟩⟩
  subst e; cases r3
  refine ⟨i, rfl, ?_⟩
  have s12 := (s1.trans s2).trans s3
  cases i with
  | false => exact (hl.stp s12).bl m3 q3
  | true => exact ⟨A3, ρ, M3, _, hs.stp hm s12, m3, q3, fun d4 M4 v4 H4 A4 q4 s4 m4 r4 => ⟨A4, M4, d2, d4, _, (r2.stp m2 s3).stp m3 s4, r4, m4, q4, (hl.stp s12).stp s4⟩⟩
theorem t_chn {op op' : CmpOp} (g : Good G fs k X) (h1 : op ≠ .In) (h2 : op ≠ .NotIn) (h3 : op' ≠ .In) (h4 : op' ≠ .NotIn) (ha : PE X x (rdE G X.K a)) (hb : PE X y (rdE G X.K b)) (hc : PE X z (rdE G X.K c)) :
    PT X (.Compare x [op, op'] [y, z] pos) (rdT G X.K (.chn op op' a b c)) := by
  refine (pt_chain (opD_cmp op g.un ⟨h1, h2⟩) (opD_cmp op' g.un ⟨h3, h4⟩) ha hb hc (nomark _ h3 h4)).weak fun σ H κ ⟨A, ρ, M, Q, hs, hm, hw, hl⟩ => ⟨A, ρ, M, _, hs, hm, hw, fun d1 M1 v1 H1 A1 q1 s1 m1 r1 =>
    ⟨A1, ρ, M1, _, hs.stp hm s1, m1, q1, fun d2 M2 v2 H2 A2 q2 s2 m2 r2 => ⟨A2, M2, d1, d2, _, r1.stp m1 s2, r2, m2, q2, fun d3 M3 v3 H3 A3 ⟨i, e, q3⟩ s3 m3 r3 => ?_⟩⟩⟩
  subst e; cases r3
  refine ⟨i, rfl, ?_⟩
  have s12 := (s1.trans s2).trans s3
  cases i with
  | false => exact ⟨false, rfl, hl false M3 H3 A3 q3 s12 m3⟩
  | true => exact ⟨A3, ρ, M3, _, hs.stp hm s12, m3, q3, fun d4 M4 v4 H4 A4 q4 s4 m4 r4 => ⟨A4, M4, d2, d4, _, (r2.stp m2 s3).stp m3 s4, r4, m4, q4, fun d5 M5 v5 H5 A5 ⟨j, e, q5⟩ s5 m5 r5 => by
      subst e; cases r5
      exact ⟨j, rfl, hl j M5 H5 A5 q5 ((s12.trans s4).trans s5) m5⟩⟩⟩
def tChain3 (r1 r2 r3 : R2) (ta tb tc td : TE) : TE := fun σ H Q => ta σ H fun x H1 => tb σ H1 fun y H2 => r1 x y H2 fun z H3 => ∃ k, z = .bl k ∧
  (if k = true then tc σ H3 fun w H4 => r2 y w H4 fun z' H5 => ∃ k', z' = .bl k' ∧ (if k' = true then td σ H5 fun u H6 => r3 w u H6 Q else Q (.bl false) H5) else Q (.bl false) H3)
theorem pe_chain3 {o1 o2 o3 : CmpOp} {r1 r2 r3 : R2} {ta tb tc td : TE} {a b c d : Expr} (h1 : OpR X (compareOp o1) r1) (h2 : OpR X (compareOp o2) r2) (h3 : OpR X (compareOp o3) r3) (ha : PE X a ta) (hb : PE X b tb) (hc : PE X c tc) (hd : PE X d td)
    (hm : lastMarks [o1, o2, o3] [b, c, d] = false) : PE X (.Compare a [o1, o2, o3] [b, c, d] pos) (tChain3 r1 r2 r3 ta tb tc td) := by
  refine ⟨fun pins s σ H Q I h => ?_⟩
  refine Compare_chain (thn (ha.run pins s σ H _ I h) fun v s1 ⟨x, H1, I1, rx, q1⟩ => chain_link (thn (hb.run pins s1 σ H1 _ I1 q1) fun u s2 ⟨y, H2, I2, ry, q2⟩ =>
    thn (h1 pins s2 σ H2 x y v u _ I2 rx ry q2) fun d s3 ⟨z, H3, I3, r3', k, e, q3⟩ => ?_)) hm
  subst e
  cases r3'
  refine wpAny_truthy_bool ?_
  cases k with
  | false => exact ite_ff ⟨.bl false, H3, I3, rfl, q3⟩
  | true =>
    refine ite_tt (chain_link (thn (hc.run pins s3 σ H3 _ I3 q3) fun w s4 ⟨z', H4, I4, r4, q4⟩ => thn (h2 pins s4 σ H4 y z' u w _ I4 ry r4 q4) fun d' s5 ⟨z2, H5, I5, r5, k2, e2, q5⟩ => ?_))
    subst e2
    cases r5
    refine wpAny_truthy_bool ?_
    cases k2 with
    | false => exact ite_ff ⟨.bl false, H5, I5, rfl, q5⟩
    | true => exact ite_tt (chain_last (thn (hd.run pins s5 σ H5 _ I5 q5) fun w' s6 ⟨z3, H6, I6, r6, q6⟩ => h3 pins s6 σ H6 z' z3 w w' Q I6 r4 r6 q6))
theorem pt_chain3 {o1 o2 o3 : CmpOp} {r1 r2 r3 : R2} {ta tb tc td : TE} {a b c d : Expr} (h1 : OpR X (compareOp o1) r1) (h2 : OpR X (compareOp o2) r2) (h3 : OpR X (compareOp o3) r3) (ha : PE X a ta) (hb : PE X b tb) (hc : PE X c tc) (hd : PE X d td)
    (hm : lastMarks [o1, o2, o3] [b, c, d] = false) : PT X (.Compare a [o1, o2, o3] [b, c, d] pos) (tTest (tChain3 r1 r2 r3 ta tb tc td)) := by
  refine ⟨fun pins s σ H Q I h => ?_⟩
  refine isTrue_chain (thn (ha.run pins s σ H _ I h) fun v s1 ⟨x, H1, I1, rx, q1⟩ => test_link (thn (hb.run pins s1 σ H1 _ I1 q1) fun u s2 ⟨y, H2, I2, ry, q2⟩ =>
    thn (h1 pins s2 σ H2 x y v u _ I2 rx ry q2) fun d s3 ⟨z, H3, I3, r3', k, e, q3⟩ => ?_)) hm
  subst e
  cases r3'
  refine wpAny_truthy_bool ?_
  cases k with
  | false =>
    obtain ⟨k', e', q'⟩ := q3
    cases e'
    exact ite_ff ⟨H3, I3, q'⟩
  | true =>
    refine ite_tt (test_link (thn (hc.run pins s3 σ H3 _ I3 q3) fun w s4 ⟨z', H4, I4, r4, q4⟩ => thn (h2 pins s4 σ H4 y z' u w _ I4 ry r4 q4) fun d' s5 ⟨z2, H5, I5, r5, k2, e2, q5⟩ => ?_))
    subst e2
    cases r5
    refine wpAny_truthy_bool ?_
    cases k2 with
    | false =>
      obtain ⟨k', e', q'⟩ := q5
      cases e'
      exact ite_ff ⟨H5, I5, q'⟩
    | true =>
      refine ite_tt (test_last (thn (hd.run pins s5 σ H5 _ I5 q5) fun w' s6 ⟨z3, H6, I6, r6, q6⟩ => thn (h3 pins s6 σ H6 z' z3 w w' _ I6 r4 r6 q6) fun d2 s7 ⟨z4, H7, I7, r7, k3, e3, q7⟩ => ?_))
      subst e3
      cases r7
      exact wpAny_truthy_bool ⟨H7, I7, q7⟩
theorem lastMarks3 {o1 o2 o3 : CmpOp} (d : Expr) {b c : Expr} (h : o3 ≠ .In) (h2 : o3 ≠ .NotIn) : lastMarks [o1, o2, o3] [b, c, d] = false := nomark d h h2
theorem s_ch3 {o1 o2 o3 : CmpOp} {d : IE} {u : Expr} (g : Good G fs k X) (h1 : o1 ≠ .In) (h2 : o1 ≠ .NotIn) (h3 : o2 ≠ .In) (h4 : o2 ≠ .NotIn) (h5 : o3 ≠ .In) (h6 : o3 ≠ .NotIn) (ha : PE X x (rdE G X.K a)) (hb : PE X y (rdE G X.K b)) (hc : PE X z (rdE G X.K c)) (hd : PE X u (rdE G X.K d)) :
    PE X (.Compare x [o1, o2, o3] [y, z, u] pos) (rdE G X.K (.ch3 o1 o2 o3 a b c d)) := by
  refine (pe_chain3 (opD_cmp o1 g.un ⟨h1, h2⟩) (opD_cmp o2 g.un ⟨h3, h4⟩) (opD_cmp o3 g.un ⟨h5, h6⟩) ha hb hc hd (lastMarks3 _ h5 h6)).weak fun σ H κ ⟨A, ρ, M, Q, hs, hm, hw, hl⟩ => ⟨A, ρ, M, _, hs, hm, hw, fun d1 M1 v1 H1 A1 q1 s1 m1 r1 =>
    ⟨A1, ρ, M1, _, hs.stp hm s1, m1, q1, fun d2 M2 v2 H2 A2 q2 s2 m2 r2 => ⟨A2, M2, d1, d2, _, r1.stp m1 s2, r2, m2, q2, fun d3 M3 v3 H3 A3 ⟨i, e, q3⟩ s3 m3 r3 => ?_⟩⟩⟩
  subst e; cases r3
  refine ⟨i, rfl, ?_⟩
  have s12 := (s1.trans s2).trans s3
  cases i with
  | false => exact (hl.stp s12).bl m3 q3
  | true => exact ⟨A3, ρ, M3, _, hs.stp hm s12, m3, q3, fun d4 M4 v4 H4 A4 q4 s4 m4 r4 => ⟨A4, M4, d2, d4, _, (r2.stp m2 s3).stp m3 s4, r4, m4, q4, fun d5 M5 v5 H5 A5 ⟨j, e, q5⟩ s5 m5 r5 => by
      subst e; cases r5
      refine ⟨j, rfl, ?_⟩
      have s15 := (s12.trans s4).trans s5
      cases j with
      | false => exact (hl.stp s15).bl m5 q5
      | true => exact ⟨A5, ρ, M5, _, hs.stp hm s15, m5, q5, fun d6 M6 v6 H6 A6 q6 s6 m6 r6 => ⟨A6, M6, d4, d6, _, (r4.stp m4 s5).stp m5 s6, r6, m6, q6, (hl.stp s15).stp s6⟩⟩⟩⟩
theorem t_ch3 {o1 o2 o3 : CmpOp} {d : IE} {u : Expr} (g : Good G fs k X) (h1 : o1 ≠ .In) (h2 : o1 ≠ .NotIn) (h3 : o2 ≠ .In) (h4 : o2 ≠ .NotIn) (h5 : o3 ≠ .In) (h6 : o3 ≠ .NotIn) (ha : PE X x (rdE G X.K a)) (hb : PE X y (rdE G X.K b)) (hc : PE X z (rdE G X.K c)) (hd : PE X u (rdE G X.K d)) :
    PT X (.Compare x [o1, o2, o3] [y, z, u] pos) (rdT G X.K (.ch3 o1 o2 o3 a b c d)) := by
  refine (pt_chain3 (opD_cmp o1 g.un ⟨h1, h2⟩) (opD_cmp o2 g.un ⟨h3, h4⟩) (opD_cmp o3 g.un ⟨h5, h6⟩) ha hb hc hd (lastMarks3 _ h5 h6)).weak fun σ H κ ⟨A, ρ, M, Q, hs, hm, hw, hl⟩ => ⟨A, ρ, M, _, hs, hm, hw, fun d1 M1 v1 H1 A1 q1 s1 m1 r1 =>
    ⟨A1, ρ, M1, _, hs.stp hm s1, m1, q1, fun d2 M2 v2 H2 A2 q2 s2 m2 r2 => ⟨A2, M2, d1, d2, _, r1.stp m1 s2, r2, m2, q2, fun d3 M3 v3 H3 A3 ⟨i, e, q3⟩ s3 m3 r3 => ?_⟩⟩⟩
  subst e; cases r3
  refine ⟨i, rfl, ?_⟩
  have s12 := (s1.trans s2).trans s3
  cases i with
  | false => exact ⟨false, rfl, hl false M3 H3 A3 q3 s12 m3⟩
  | true => exact ⟨A3, ρ, M3, _, hs.stp hm s12, m3, q3, fun d4 M4 v4 H4 A4 q4 s4 m4 r4 => ⟨A4, M4, d2, d4, _, (r2.stp m2 s3).stp m3 s4, r4, m4, q4, fun d5 M5 v5 H5 A5 ⟨j, e, q5⟩ s5 m5 r5 => by
      subst e; cases r5
      refine ⟨j, rfl, ?_⟩
      have s15 := (s12.trans s4).trans s5
      cases j with
      | false => exact ⟨false, rfl, hl false M5 H5 A5 q5 s15 m5⟩
      | true => exact ⟨A5, ρ, M5, _, hs.stp hm s15, m5, q5, fun d6 M6 v6 H6 A6 q6 s6 m6 r6 => ⟨A6, M6, d4, d6, _, (r4.stp m4 s5).stp m5 s6, r6, m6, q6, fun d7 M7 v7 H7 A7 ⟨l, e, q7⟩ s7 m7 r7 => by
          subst e; cases r7
          exact ⟨l, rfl, hl l M7 H7 A7 q7 ((s15.trans s6).trans s7) m7⟩⟩⟩⟩⟩
theorem s_ite {t : IE} (ht : PT X z (rdT G X.K t)) (ha : PE X x (rdE G X.K a)) (hb : PE X y (rdE G X.K b)) : PE X (.IfExp z x y pos) (rdE G X.K (.ite t a b)) :=
  (pe_ifExp ht ha hb).weak fun σ H κ ⟨A, ρ, M, Q, hs, hm, hw, hl⟩ => ⟨A, ρ, M, _, hs, hm, hw, fun i M1 H1 A1 q1 s1 m1 => by
    cases i with
    | true => exact ⟨A1, ρ, M1, Q, hs.stp hm s1, m1, q1, hl.stp s1⟩
    | false => exact ⟨A1, ρ, M1, Q, hs.stp hm s1, m1, q1, hl.stp s1⟩⟩
variable {es : List Expr} {xs : IE}
theorem s_tup {n : Nat} (ha : PA X es (rdA G X.K xs)) : PE X (.Tuple es n pos) (rdE G X.K (.tup xs)) :=
  (pe_tup ha).weak fun σ H κ ⟨A, ρ, M, Q, hs, hm, hw, hl⟩ => ⟨A, ρ, M, _, hs, hm, hw, fun ds M1 vs H1 A1 ⟨hz, q1⟩ s1 m1 r1 => ⟨by rw [r1.length]; exact hz, fun p hp => (hl.stp s1).newT m1 r1 q1 p hp⟩⟩
theorem s_lst (ha : PA X es (rdA G X.K xs)) : PE X (.List es pos) (rdE G X.K (.lst xs)) :=
  (pe_lst ha).weak fun σ H κ ⟨A, ρ, M, Q, hs, hm, hw, hl⟩ => ⟨A, ρ, M, _, hs, hm, hw, fun ds M1 vs H1 A1 ⟨hz, q1⟩ s1 m1 r1 => ⟨by rw [r1.length]; exact hz, fun p hp => (hl.stp s1).newL m1 r1 q1 p hp⟩⟩
theorem plainIx (h : noSlice y = true) : PlainIx y := by
  intro o i
  cases y <;> first | rfl | cases h
theorem s_dnew : PE X (.Dict [] [] pos) (rdE G X.K .dnew) :=
  pe_dnewT.weak fun σ H κ ⟨A, ρ, M, Q, hs, hm, hw, hl⟩ d hd => hl (.dct M.length) _ _ _ (A ++ [d]) hw (stp_newO hm hd) (rm_newC hm hd (.dct upd_same .nil)) (.dct (by rw [← hm.len, List.getElem?_append_right (Nat.le_refl _)]; simp) ⟨_, upd_same, .inl ⟨_, rfl⟩⟩)
theorem s_ix (hu : X.A.units + 1 < cLine) (hy : noSlice y = true) (ha : PE X x (rdE G X.K a)) (hb : PE X y (rdE G X.K b)) : PE X (.Subscript x y pos) (rdE G X.K (.ix a b)) :=
  (pe_ix (ixD_ok hu) ha hb (plainIx hy)).weak fun σ H κ ⟨A, ρ, M, Q, hs, hm, hw, hl⟩ => ⟨A, ρ, M, _, hs, hm, hw, fun d1 M1 v1 H1 A1 q1 s1 m1 r1 =>
    ⟨A1, ρ, M1, _, hs.stp hm s1, m1, q1, fun d2 M2 v2 H2 A2 q2 s2 m2 r2 => ⟨A2, M2, d1, d2, _, r1.stp m1 s2, r2, m2, q2, (hl.stp s1).stp s2⟩⟩⟩
theorem s_sl {l h : Option Expr} (ha : PE X x (rdE G X.K a)) (hb : PO X l (rdO G X.K b)) (hc : PO X h (rdO G X.K c)) : PE X (.Subscript x (.Slice l h none p) pos) (rdE G X.K (.sl a b c)) :=
  (pe_slice slD_ok ha hb hc).weak fun σ H κ ⟨A, ρ, M, Q, hs, hm, hw, hl⟩ => ⟨A, ρ, M, _, hs, hm, hw, fun d1 M1 v1 H1 A1 q1 s1 m1 r1 =>
    ⟨A1, ρ, M1, _, hs.stp hm s1, m1, q1, fun d2 M2 H2 A2 q2 s2 m2 => ⟨A2, ρ, M2, _, (hs.stp hm s1).stp m1 s2, m2, q2, fun d3 M3 H3 A3 q3 s3 m3 =>
      ⟨A3, M3, d1, _, (r1.stp m1 s2).stp m2 s3, m3, q3, ((hl.stp s1).stp s2).stp s3⟩⟩⟩⟩
theorem a_nil : PA X [] (rdA G X.K .nil) := pa_nil.weak fun σ H κ ⟨A, ρ, M, Q, hs, hm, hw, hl⟩ => hl [] M [] H A hw (Stp.refl H A) hm .nil
theorem star_of {env : Env} (h : noStar x = true) : starEach (x :: es) env = (false, eval x env) :: starEach es env := by
  cases x <;> first | rfl | cases h
theorem a_cons {r : IE} (hx : noStar x = true) (ha : PE X x (rdE G X.K a)) (hr : PA X es (rdA G X.K r)) : PA X (x :: es) (rdA G X.K (.cons a r)) :=
  (pa_cons ha hr (star_of hx)).weak fun σ H κ ⟨A, ρ, M, Q, hs, hm, hw, hl⟩ => ⟨A, ρ, M, _, hs, hm, hw, fun d1 M1 v1 H1 A1 q1 s1 m1 r1 =>
    ⟨A1, ρ, M1, _, hs.stp hm s1, m1, q1, fun ds M2 vs H2 A2 q2 s2 m2 r2 => hl _ M2 _ H2 A2 q2 (s1.trans s2) m2 (.cons (r1.stp m1 s2) r2)⟩⟩
end
end DL

set_option Elab.async false
set_option linter.all false
set_option maxRecDepth 100000
set_option maxHeartbeats 4000000
namespace DL
open PySem L2 PySem.Spec PyProof.Rows
section
variable {X : Cx} {G : Gam} {fs : List String} {k : Nat} {pos p q : Pos} {x y z : Expr} {a b c : IE} {es : List Expr} {xs : IE}

/-! tests -/
theorem t_and {r : List Expr} (ha : PT X x (rdT G X.K a)) (hb : PW X (.BoolOp .And (y :: r) pos) (rdT G X.K b)) : PW X (.BoolOp .And (x :: y :: r) pos) (rdT G X.K (.and a b)) :=
  (pw_and ha hb).weak fun σ H κ ⟨A, ρ, M, Q, hs, hm, hw, hl⟩ => ⟨A, ρ, M, _, hs, hm, hw, fun i M1 H1 A1 q1 s1 m1 => by
    cases i with
    | true => exact ⟨A1, ρ, M1, Q, hs.stp hm s1, m1, q1, fun j M2 H2 A2 q2 s2 m2 => hl j M2 H2 A2 q2 (s1.trans s2) m2⟩
    | false => exact hl false M1 H1 A1 q1 s1 m1⟩
theorem t_or {r : List Expr} (ha : PT X x (rdT G X.K a)) (hb : PW X (.BoolOp .Or (y :: r) pos) (rdT G X.K b)) : PW X (.BoolOp .Or (x :: y :: r) pos) (rdT G X.K (.or a b)) :=
  (pw_or ha hb).weak fun σ H κ ⟨A, ρ, M, Q, hs, hm, hw, hl⟩ => ⟨A, ρ, M, _, hs, hm, hw, fun i M1 H1 A1 q1 s1 m1 => by
    cases i with
    | false => exact ⟨A1, ρ, M1, Q, hs.stp hm s1, m1, q1, fun j M2 H2 A2 q2 s2 m2 => hl j M2 H2 A2 q2 (s1.trans s2) m2⟩
    | true => exact hl true M1 H1 A1 q1 s1 m1⟩
theorem t_one {op : BoolOp} (ha : PT X x (rdT G X.K a)) : PW X (.BoolOp op [x] pos) (rdT G X.K (.one a)) := by
  cases op with
  | And => exact (pw_and1 ha).weak fun σ H κ h => h
  | Or => exact (pw_or1 ha).weak fun σ H κ h => h
theorem t_not (ha : PT X x (rdT G X.K a)) : PT X (.UnaryOp .Not x pos) (rdT G X.K (.not a)) :=
  (pt_not ha).weak fun σ H κ ⟨A, ρ, M, Q, hs, hm, hw, hl⟩ => ⟨A, ρ, M, _, hs, hm, hw, fun i M1 H1 A1 q1 s1 m1 => hl (!i) M1 H1 A1 q1 s1 m1⟩
/-- a value that is a truth, as a test -/
theorem t_val (ha : PE X x (rdE G X.K a)) (he : ∀ whole, isTrue x X.env whole = (do let v ← whole; standAt x.pos; holding [v] (truthy v)))
    (hw : ∀ ρ M Q, wpT G a ρ M Q → wpE G a ρ M fun d M2 => ∃ c, d = .bl c ∧ Q c M2) : PT X x (rdT G X.K a) :=
  (pt_val ha he).weak fun σ H κ ⟨A, ρ, M, Q, hs, hm, w, hl⟩ => ⟨A, ρ, M, _, hs, hm, hw _ _ _ w, fun d M1 v H1 A1 ⟨i, e, q1⟩ s1 m1 r1 => by
    subst e; cases r1; exact ⟨i, rfl, hl i M1 H1 A1 q1 s1 m1⟩⟩

/-! isinstance -/
theorem glB_ok {x : Str} (h : glB X.env.scope x = true) : Gl X x := by
  unfold glB at h
  split at h
  · assumption
  · cases h
theorem ty_glob {T : String} (g : Good G fs k X) (hT : T ∈ clNames) (hg : glB X.env.scope (Str.ofString T) = true) : PE X (.Name (Str.ofString T) pos) (tC (.ty T)) := by
  simp only [clNames, List.mem_cons, List.not_mem_nil, or_false] at hT
  rcases hT with rfl | rfl | rfl | rfl | rfl <;> exact pe_bltn (glB_ok hg) (g.bi _ (by decide)) (by decide +kernel) rfl (by decide +kernel) (by decide +kernel)
theorem s_isi {T : String} (g : Good G fs k X) (h1 : glB X.env.scope (Str.ofString "isinstance") = true) (h2 : glB X.env.scope (Str.ofString T) = true) (hT : T ∈ clNames) (hx : noStar x = true) (ha : PE X x (rdE G X.K a)) :
    PE X (.Call (.Name (Str.ofString "isinstance") p) [x, .Name (Str.ofString T) q] [] pos) (rdE G X.K (.isi a [T])) :=
  (pe_callB isiD_ok (glB_ok h1) (g.bi _ (by decide)) (by decide +kernel) (pa_cons ha (pa_cons (ty_glob g hT h2) pa_nil) (star_of hx)) (by decide +kernel) (by decide +kernel) (star_of hx)).weak fun σ H κ ⟨A, ρ, M, Q, hs, hm, hw, hl⟩ =>
    ⟨A, ρ, M, _, hs, hm, hw, fun d1 M1 v1 H1 A1 ⟨i, e, q1⟩ s1 m1 r1 => ⟨A1, M1, d1, v1, T, i, _, rfl, hT, r1, m1, e, q1, hl.stp s1⟩⟩
theorem tys_pa (g : Good G fs k X) : ∀ (T : List String) (es : List Expr), tyNameB X.env.scope T es = true → (∀ c ∈ T, c ∈ clNames) ∧ PA X es (fun σ H Q => Q (T.map V.ty) H)
  | [], [], _ => ⟨fun _ h => (by cases h), pa_nil.weak fun _ _ _ h => h⟩
  | [], _ :: _, h => by simp [tyNameB] at h
  | _ :: _, [], h => by simp [tyNameB] at h
  | T :: r, e :: es, h => by
    cases e with
    | Name x px =>
      simp only [tyNameB, Bool.and_eq_true, decide_eq_true_eq, List.contains_iff_mem] at h
      obtain ⟨⟨⟨rfl, h2⟩, h3⟩, h4⟩ := h
      obtain ⟨i1, i2⟩ := tys_pa g r es h4
      refine ⟨fun c hc => ?_, (pa_cons (ty_glob g h3 h2) i2).weak fun σ H Q h => h⟩
      rcases List.mem_cons.mp hc with rfl | hc
      · exact h3
      · exact i1 c hc
    | _ => simp [tyNameB] at h
theorem tys_len {sc : Scope} : ∀ {T : List String} {es : List Expr}, tyNameB sc T es = true → T.length = es.length
  | [], [], _ => rfl
  | [], _ :: _, h => by simp [tyNameB] at h
  | _ :: _, [], h => by simp [tyNameB] at h
  | T :: r, e :: es, h => by
    cases e with
    | Name x px =>
      simp only [tyNameB, Bool.and_eq_true] at h
      simp [tys_len h.2]
    | _ => simp [tyNameB] at h
theorem s_isiT {T : List String} {n : Nat} (g : Good G fs k X) (h1 : glB X.env.scope (Str.ofString "isinstance") = true) (hT : tyNameB X.env.scope T es = true) (hn : T.length ≤ sizeLine) (hx : noStar x = true) (ha : PE X x (rdE G X.K a)) :
    PE X (.Call (.Name (Str.ofString "isinstance") p) [x, .Tuple es n q] [] pos) (rdE G X.K (.isi a T)) := by
  obtain ⟨hc, hp⟩ := tys_pa g T es hT
  refine (pe_callB (isiT_ok (T := T)) (glB_ok h1) (g.bi _ (by decide)) (by decide +kernel) (pa_cons ha (pa_cons (pe_tup hp) pa_nil) (star_of hx)) (by decide +kernel) (by decide +kernel) (star_of hx)).weak fun σ H κ ⟨A, ρ, M, Q, hs, hm, hw, hl⟩ =>
    ⟨A, ρ, M, _, hs, hm, hw, fun d1 M1 v1 H1 A1 ⟨i, e, q1⟩ s1 m1 r1 => ⟨by rw [List.length_map]; exact hn, fun tp htp => ?_⟩⟩
  have s2 := stp_upd (o := .tup (T.map V.ty)) m1 htp
  exact ⟨A1, M1, d1, v1, tp, i, _, rfl, upd_same, hc, r1.stp m1 s2, rm_upd m1 htp, e, q1, (hl.stp s1).stp s2⟩

/-! built-in functions, methods, calls -/
theorem any_star {env : Env} : ∀ {es : List Expr} {xs : IE} {N : List Str} {fs : List String} {sc : Scope}, chkA N fs xs sc es = true → (backTo pos (starEach es env)).any (·.1) = false
  | [], _, _, _, _, _ => rfl
  | e :: es, xs, N, fs, sc, h => by
    cases xs with
    | cons a r =>
      simp only [chkA, Bool.and_eq_true] at h
      rw [star_of h.1.1]
      have ih := @any_star env es r N fs sc h.2
      unfold backTo at ih ⊢
      rw [List.map_cons, List.any_cons, ih]
      rfl
    | _ => simp [chkA] at h
theorem chkA_star {N : List Str} {sc : Scope} {e : Expr} (h : chkA N fs xs sc (e :: es) = true) : noStar e = true := by
  cases xs with
  | cons a r =>
    simp only [chkA, Bool.and_eq_true] at h
    exact h.1.1
  | _ => simp [chkA] at h
theorem chkA_tail {N : List Str} {sc : Scope} {e : Expr} (h : chkA N fs xs sc (e :: es) = true) : ∃ a r, xs = .cons a r ∧ chkA N fs r sc es = true := by
  cases xs with
  | cons a r =>
    simp only [chkA, Bool.and_eq_true] at h
    exact ⟨a, r, rfl, h.2⟩
  | _ => simp [chkA] at h
theorem wp_nil_no {f : BF} {ρ : En} {M : Mem} {Q : Kn} (h : wpE G (.blt f .nil) ρ M Q) : False := by
  have h' : bfD f [] M Q := h
  cases f <;> exact h'
theorem chkA_nil {N : List Str} {sc : Scope} (h : chkA N fs xs sc [] = true) : xs = .nil := by
  cases xs <;> first | rfl | simp [chkA] at h
theorem pdl_pts {M : Mem} : ∀ ls : List (Int × Int), PDL M (ls.map pt2) (ls.map DPt.ptD)
  | [] => .nil
  | p :: ls => .cons (.tup (.cons (.int _) (.cons (.int _) .nil))) (pdl_pts ls)
theorem bf_mnp (hc : X.calm = true) (hu : X.A.units + 64 < cLine) : CallR X (.builtin "min") (rC X.K (bfD .mnp)) := by
  intro pins s σ H xs us Q I r h
  obtain ⟨A, M, ds, Qd, hx, hm, hb, hl⟩ := h
  obtain ⟨d, rfl⟩ : ∃ d, ds = [d] := by
    cases hx with
    | nil => exact False.elim hb
    | cons hv l => cases l with
      | nil => exact ⟨_, rfl⟩
      | cons _ _ => cases hv <;> exact False.elim hb
  obtain ⟨v, rfl, h1⟩ := hx.one
  cases h1 <;> first | exact False.elim hb | skip
  rename_i a n ha hka
  obtain ⟨ls, e, ne, q⟩ := hb
  obtain ⟨vs, h2, l2⟩ := hm.list ha hka e
  refine DPt.cr_mnp hc hu pins s σ H _ us Q I r ⟨a, vs, ls, rfl, SqL.of h2, (pdl_pts ls).dp hm l2, ne, fun i v p hv hp least => ?_⟩
  obtain ⟨d, hd, rd⟩ := l2.get' hv
  have hd2 : (ls.map pt2)[i]? = some (pt2 p) := by rw [List.getElem?_map, hp]; rfl
  rw [hd] at hd2
  cases hd2
  exact hl.now hm rd (q p (List.mem_of_getElem? hp) least)
theorem bf_mxp (hc : X.calm = true) (hu : X.A.units + 64 < cLine) : CallR X (.builtin "max") (rC X.K (bfD .mxp)) := by
  intro pins s σ H xs us Q I r h
  obtain ⟨A, M, ds, Qd, hx, hm, hb, hl⟩ := h
  obtain ⟨d, rfl⟩ : ∃ d, ds = [d] := by
    cases hx with
    | nil => exact False.elim hb
    | cons hv l => cases l with
      | nil => exact ⟨_, rfl⟩
      | cons _ _ => cases hv <;> exact False.elim hb
  obtain ⟨v, rfl, h1⟩ := hx.one
  cases h1 <;> first | exact False.elim hb | skip
  rename_i a vs ds ha l2
  obtain ⟨ls, e, ne, q⟩ := hb
  subst e
  refine DPt.cr_mxp hc hu pins s σ H _ us Q I r ⟨a, vs, ls, rfl, ha.sq, (pdl_pts ls).dp hm l2, ne, fun i v p hv hp least => ?_⟩
  obtain ⟨d, hd, rd⟩ := l2.get' hv
  have hd2 : (ls.map pt2)[i]? = some (pt2 p) := by rw [List.getElem?_map, hp]; rfl
  rw [hd] at hd2
  cases hd2
  exact hl.now hm rd (q p (List.mem_of_getElem? hp) least)
/-- which point a value is -/
def kP (H : Hp) : V → Int × Int
  | .ref t => (match H t with | some (.tup [.int i, .int j]) => (i, j) | _ => (0, 0))
  | _ => (0, 0)
theorem kP_at {K : Frg} {H : Hp} {A : List Addr} {v : V} {p : Int × Int} (r : Rp K H A v (pt2 p)) : (∃ t, v = .ref t ∧ H t = some (.tup [.int (kP H v).1, .int (kP H v).2])) ∧ kP H v = p := by
  obtain ⟨a, rfl, h⟩ := Rp.key r
  have e : kP H (.ref a) = p := by
    show (match H a with | some (.tup [.int i, .int j]) => (i, j) | _ => (0, 0)) = p
    rw [h]
  exact ⟨⟨a, rfl, by rw [e]; exact h⟩, e⟩
theorem pts_map {K : Frg} {H : Hp} {A : List Addr} : ∀ {vs : List V} {ls : List (Int × Int)}, RpL K H A vs (ls.map pt2) → vs.map (kP H) = ls ∧ ∀ v ∈ vs, (∃ t, v = .ref t ∧ H t = some (.tup [.int (kP H v).1, .int (kP H v).2])) ∧ Rp K H A v (pt2 (kP H v))
  | [], [], _ => ⟨rfl, by simp⟩
  | v :: vs, p :: ls, h => by
    cases h with
    | cons h l =>
      obtain ⟨e, f⟩ := pts_map l
      obtain ⟨h1, h2⟩ := kP_at h
      refine ⟨by rw [List.map_cons, e, h2], fun w hw => ?_⟩
      rcases List.mem_cons.mp hw with rfl | hw
      · exact ⟨h1, by rw [h2]; exact h⟩
      · exact f w hw
  | [], _ :: _, h => by cases h
  | _ :: _, [], h => by cases h
theorem rp_pts {K : Frg} {H : Hp} {A : List Addr} : ∀ {vs : List V}, (∀ v ∈ vs, Rp K H A v (pt2 (kP H v))) → RpL K H A vs ((vs.map (kP H)).map pt2)
  | [], _ => .nil
  | v :: vs, h => .cons (h v (by simp)) (rp_pts fun w hw => h w (by simp [hw]))
theorem bf_srp : CallR X (.builtin "sorted") (rC X.K (bfD .srp)) := by
  intro pins s σ H xs us Q I r h
  obtain ⟨A, M, ds, Qd, hx, hm, hb, hl⟩ := h
  obtain ⟨d, rfl⟩ : ∃ d, ds = [d] := by
    cases hx with
    | nil => exact False.elim hb
    | cons hv l => cases l with
      | nil => exact ⟨_, rfl⟩
      | cons _ _ => cases hv <;> exact False.elim hb
  obtain ⟨v, rfl, h1⟩ := hx.one
  cases h1 <;> first | exact False.elim hb | skip
  rename_i a n ha hka
  obtain ⟨ls, e, q⟩ := hb
  obtain ⟨vs, h2, l2⟩ := hm.list ha hka e
  obtain ⟨em, all⟩ := pts_map l2
  refine cr_sortedPO pins s σ H _ us Q I r ⟨a, vs, kP H, rfl, SqL.of h2, fun x hx => (all x hx).1, fun ys p hs hp hn => ?_⟩
  have pm : ys.Perm vs := hp.perm
  refine hl.newL hm (rp_pts fun v hv => (all v (pm.mem_iff.mp hv)).2) (q _ (by rw [← em]; exact pm.map _) ?_) p hn
  rw [List.pairwise_map]
  refine hs.imp fun {x y} h hl' => ?_
  have := SrtO.lexB_no.mp h
  unfold Lx at hl'
  omega
theorem blt_ok (g : Good G fs k X) (f : BF) (hf : f ≠ .sset) (hq : (cold fs || coolF f) = true) : ∃ v, bootBuiltins (Str.ofString (bfName f)) = some v ∧ CallR X v (rC X.K (bfD f)) ∧ ((∃ id, v = .builtin id) ∨ ∃ T, v = .type T) := by
  cases f with
  | len => exact ⟨_, by decide +kernel, bf_len, .inl ⟨_, rfl⟩⟩
  | abs => exact ⟨_, by decide +kernel, bf_abs, .inl ⟨_, rfl⟩⟩
  | max => exact ⟨_, by decide +kernel, bf_max (g.calm (by simpa [coolF] using hq)), .inl ⟨_, rfl⟩⟩
  | min => exact ⟨_, by decide +kernel, bf_min (g.calm (by simpa [coolF] using hq)), .inl ⟨_, rfl⟩⟩
  | sum => exact ⟨_, by decide +kernel, bf_sum (g.calm (by simpa [coolF] using hq)), .inl ⟨_, rfl⟩⟩
  | all => exact ⟨_, by decide +kernel, bf_all (g.calm (by simpa [coolF] using hq)), .inl ⟨_, rfl⟩⟩
  | any => exact ⟨_, by decide +kernel, bf_any (g.calm (by simpa [coolF] using hq)), .inl ⟨_, rfl⟩⟩
  | repr => exact ⟨_, by decide +kernel, bf_repr g.gd g.un, .inl ⟨_, rfl⟩⟩
  | str => exact ⟨_, by decide +kernel, bf_str, .inr ⟨_, rfl⟩⟩
  | int => exact ⟨_, by decide +kernel, bf_int, .inr ⟨_, rfl⟩⟩
  | list => exact ⟨_, by decide +kernel, bf_list, .inr ⟨_, rfl⟩⟩
  | sor => exact ⟨_, by decide +kernel, bf_sor, .inl ⟨_, rfl⟩⟩
  | mnp => exact ⟨_, by decide +kernel, bf_mnp (g.calm (by simpa [coolF] using hq)) g.un, .inl ⟨_, rfl⟩⟩
  | mxp => exact ⟨_, by decide +kernel, bf_mxp (g.calm (by simpa [coolF] using hq)) g.un, .inl ⟨_, rfl⟩⟩
  | srp => exact ⟨_, by decide +kernel, bf_srp, .inl ⟨_, rfl⟩⟩
  | ldc => exact ⟨_, by decide +kernel, bf_ldc (g.calm (by simpa [coolF] using hq)), .inr ⟨_, rfl⟩⟩
  | tuple => exact ⟨_, by decide +kernel, bf_tuple, .inr ⟨_, rfl⟩⟩
  | sset => exact (hf rfl).elim
theorem s_blt {f : BF} (g : Good G fs k X) (hf : f ≠ .sset) (hq : (cold fs || coolF f) = true) (h1 : glB X.env.scope (Str.ofString (bfName f)) = true) (hx : chkA X.N fs xs X.env.scope es = true) (ha : PA X es (rdA G X.K xs)) :
    PE X (.Call (.Name (Str.ofString (bfName f)) p) es [] pos) (rdE G X.K (.blt f xs)) := by
  obtain ⟨v, hv, hr, hk⟩ := blt_ok g f hf hq
  have hm : X.mg (Str.ofString (bfName f)) = none := g.bi _ (by cases f <;> decide)
  have hn : Str.ofString (bfName f) ≠ "__name__" := by cases f <;> decide +kernel
  have hd : (Str.ofString (bfName f) == ("__debug__" : Str)) = false := by cases f <;> decide +kernel
  cases es with
  | nil =>
    cases chkA_nil hx
    exact ⟨fun pins s σ H Q I ⟨A, ρ, M, Q', hs, hm, hw, hl⟩ => (wp_nil_no hw).elim⟩
  | cons e es =>
    obtain ⟨a, r, rfl, hr2⟩ := chkA_tail hx
    have hst : starEach (e :: es) X.env = (false, eval e X.env) :: starEach es X.env := star_of (chkA_star hx)
    have hpl : (backTo pos (starEach es X.env)).any (·.1) = false := any_star hr2
    have go : ∀ (h : PE X (.Call (.Name (Str.ofString (bfName f)) p) (e :: es) [] pos) (tCB (rC X.K (bfD f)) (rdA G X.K (.cons a r)))), PE X (.Call (.Name (Str.ofString (bfName f)) p) (e :: es) [] pos) (rdE G X.K (.blt f (.cons a r))) := fun h =>
      h.weak fun σ H κ ⟨A, ρ, M, Q, hs, hm, hw, hl⟩ => ⟨A, ρ, M, _, hs, hm, hw, fun ds M1 vs H1 A1 q1 s1 m1 r1 => ⟨A1, M1, ds, _, r1, m1, q1, hl.stp s1⟩⟩
    rcases hk with ⟨id, rfl⟩ | ⟨T, rfl⟩
    · exact go (pe_callB hr (glB_ok h1) hm hv ha hn hd hst hpl)
    · exact go (pe_callTy hr (glB_ok h1) hm hv ha hn hd hst hpl)
/-! sorted(set(x)) -/
theorem refs_pts {K : Frg} {H : Hp} {A : List Addr} : ∀ {ls : List (Int × Int)} {vs : List V}, RpL K H A vs (ls.map pt2) → ∃ ks : List (Addr × List Int), vs = ks.map (fun q => V.ref q.1) ∧ ks.map (·.2) = ls.map (fun q => [q.1, q.2]) ∧ ∀ q ∈ ks, TkA K H q.1 (q.2.map V.int)
  | [], _, .nil => ⟨[], rfl, rfl, fun _ h => by cases h⟩
  | l :: ls, _, .cons (.tup (a := a) h m) r => by
    obtain ⟨ks, rfl, e2, h3⟩ := refs_pts r
    refine ⟨(a, [l.1, l.2]) :: ks, rfl, by rw [List.map_cons, List.map_cons, e2], fun q hq => ?_⟩
    rcases List.mem_cons.mp hq with rfl | hq
    · rw [RpL.of_ints (ns := [l.1, l.2]) m] at h
      exact h
    · exact h3 q hq
theorem pts_rp {K : Frg} {H : Hp} {A : List Addr} : ∀ {ks : List (Addr × List Int)} {ms : List (Int × Int)}, ks.map (·.2) = ms.map (fun q => [q.1, q.2]) → (∀ q ∈ ks, TkA K H q.1 (q.2.map V.int)) → RpL K H A (ks.map fun q => V.ref q.1) (ms.map pt2)
  | [], [], _, _ => .nil
  | [], _ :: _, e, _ => by cases e
  | _ :: _, [], e, _ => by cases e
  | k :: ks, m :: ms, e, h => by
    simp only [List.map_cons, List.cons.injEq] at e
    have hk := h k (by simp)
    rw [e.1] at hk
    exact .cons (.tup hk (.cons (.int _) (.cons (.int _) .nil))) (pts_rp e.2 fun q hq => h q (by simp [hq]))
theorem bound2 : ∀ ls : List (Int × Int), ∃ B : Int, ∀ l ∈ ls, DPt.In2 B l.2
  | [] => ⟨0, fun _ h => by cases h⟩
  | l :: ls => by
    obtain ⟨B, hB⟩ := bound2 ls
    refine ⟨B.natAbs + l.2.natAbs + 1, fun q hq => ?_⟩
    unfold DPt.In2
    rcases List.mem_cons.mp hq with rfl | hq
    · omega
    · have := hB q hq
      unfold DPt.In2 at this
      omega
theorem pts_of : ∀ {L : List (Addr × List Int)}, (∀ q ∈ L, ∃ x y, q.2 = [x, y]) → ∃ ms : List (Int × Int), L.map (·.2) = ms.map fun q => [q.1, q.2]
  | [], _ => ⟨[], rfl⟩
  | l :: L, h => by
    obtain ⟨ms, e⟩ := pts_of fun q hq => h q (List.mem_cons_of_mem l hq)
    obtain ⟨x, y, e2⟩ := h l (by simp)
    exact ⟨(x, y) :: ms, by rw [List.map_cons, List.map_cons, e, e2]⟩
theorem pt_inj {p q : Int × Int} (h : [p.1, p.2] = [q.1, q.2]) : p = q := by
  simp only [List.cons.injEq, and_true] at h
  exact Prod.ext h.1 h.2
theorem set_any (g : Good G fs k X) (hq : cold fs = true) : CallR X (.type "set") (fun xs H Q => (rSetOfT X.K X.prog X.w xs H Q ∨ DPt.rSetOfTup X.K X.prog X.w xs H Q) ∨ DPt.rSetOfInts X.K X.w xs H Q) := by
  intro pins s σ H xs us Q I r h
  rcases h with (h | h) | h
  · exact cr_setOfT (g.calm hq) g.un pins s σ H xs us Q I r h
  · exact DPt.cr_setOfTup (g.calm hq) g.un pins s σ H xs us Q I r h
  · exact DPt.cr_setOfInts (g.calm hq) pins s σ H xs us Q I r h
theorem sorted_any (g : Good G fs k X) (hq : cold fs = true) : CallR X (.builtin "sorted") (fun xs H Q => DPt.rSortedP X.K X.prog X.w xs H Q ∨ rSortedSet X.w xs H Q) := by
  intro pins s σ H xs us Q I r h
  rcases h with h | h
  · exact DPt.cr_sortedP (g.calm hq) pins s σ H xs us Q I r h
  · exact cr_sortedSet (g.calm hq) pins s σ H xs us Q I r h
theorem set_wish {K : Frg} {P : Program} {w : World} {H : Hp} {b : Addr} {ks : List (Addr × List Int)} {Q : VK} (kind : (SqL K H b (ks.map fun q => V.ref q.1) ∧ ks.length < 64) ∨ (SqT K H b (ks.map fun q => V.ref q.1) ∧ ∃ U : List (List Int), U.length ≤ 62 ∧ ∀ k ∈ ks, k.2 ∈ U)) (h3 : ∀ q ∈ ks, SqT K H q.1 (q.2.map V.int))
    (h : ∀ (a : Addr) (L : List (Addr × List Int)), H a = none → (∀ q ∈ L, q ∈ ks) → (∀ q ∈ ks, q.2 ∈ L.map (·.2)) → Q (.ref a) (upd H a (SetTO P w a L))) : rSetOfT K P w [V.ref b] H Q ∨ DPt.rSetOfTup K P w [V.ref b] H Q := by
  rcases kind with ⟨kind, few⟩ | ⟨kind, few⟩
  · exact .inl ⟨b, ks, rfl, kind, h3, few, h⟩
  · exact .inr ⟨b, ks, rfl, kind, h3, few, h⟩
theorem s_srt (g : Good G fs k X) (hq : cold fs = true) (h1 : glB X.env.scope (Str.ofString "sorted") = true) (h2 : glB X.env.scope (Str.ofString "set") = true) {pos2 : Pos} (hx : noStar x = true) (ha : PE X x (rdE G X.K a)) :
    PE X (.Call (.Name (Str.ofString "sorted") p) [.Call (.Name (Str.ofString "set") q) [x] [] pos2] [] pos) (rdE G X.K (.srt a)) := by
  have set_ : PE X (.Call (.Name (Str.ofString "set") q) [x] [] pos2) _ := pe_callTy (set_any g hq) (glB_ok h2) (g.bi _ (by decide)) (by decide +kernel) (pa_cons ha pa_nil (star_of hx)) (by decide +kernel) (by decide +kernel) (star_of hx)
  refine (pe_callB (sorted_any g hq) (glB_ok h1) (g.bi _ (by decide)) (by decide +kernel) (pa_cons set_ pa_nil) (by decide +kernel) (by decide +kernel)).weak fun σ H κ ⟨A, ρ, M, Q, hs, hm, hw, hl⟩ => ?_
  refine ⟨A, ρ, M, _, hs, hm, hw, fun d M1 v H1 A1 q1 s1 m1 r1 => ?_⟩
  rcases q1 with ⟨ls, hx, wish⟩ | ⟨n, ks, rfl, e1, few, wish⟩
  rotate_left
  · cases r1 with
    | lst hn hnk =>
      rename_i b
      obtain ⟨vs, hb, l1⟩ := m1.list hn hnk e1
      rw [RpL.of_ints l1] at hb
      refine .inr ⟨b, ks, rfl, SqL.of hb, few, fun c z hc hz => .inr ⟨c, _, z, rfl, upd_same, by omega, fun ns p pw mem len hp => ?_⟩⟩
      have m2 := rm_upd (o := SetO X.w c (fun j => decide (j ∈ ks)) z) m1 hc
      have s2 := stp_upd (o := SetO X.w c (fun j => decide (j ∈ ks)) z) m1 hc
      exact (hl.stp (s1.trans s2)) _ _ _ _ _ (wish ns pw (fun k => by simpa using mem k) (by omega)) (stp_new m2 hp) (rm_new m2 hp (RpL.ints ns)) (rp_new m2 hp)
  have seq : ∃ (b : Addr) (ks : List (Addr × List Int)), v = .ref b ∧ ks.map (·.2) = ls.map (fun q => [q.1, q.2]) ∧ (∀ q ∈ ks, TkA X.K H1 q.1 (q.2.map V.int)) ∧ ((SqL X.K H1 b (ks.map fun q => V.ref q.1) ∧ ks.length < 64) ∨ (SqT X.K H1 b (ks.map fun q => V.ref q.1) ∧ ∃ U : List (List Int), U.length ≤ 62 ∧ ∀ k ∈ ks, k.2 ∈ U)) := by
    rcases hx with ⟨n, rfl, e1, few⟩ | ⟨rfl, us, few, inus⟩
    · cases r1 with
      | lst hn hnk =>
        rename_i b
        obtain ⟨vs, hb, l1⟩ := m1.list hn hnk e1
        obtain ⟨ks, rfl, e2, h3⟩ := refs_pts l1
        exact ⟨b, ks, rfl, e2, h3, .inl ⟨SqL.of hb, by have := congrArg List.length e2; simp at this; omega⟩⟩
    · cases r1 with
      | tup ht l1 =>
        rename_i b vs
        obtain ⟨ks, rfl, e2, h3⟩ := refs_pts l1
        exact ⟨b, ks, rfl, e2, h3, .inr ⟨ht.sq, us.map fun q => [q.1, q.2], by rw [List.length_map]; exact few, fun k hk => by
          have hk2 : k.2 ∈ ks.map (·.2) := List.mem_map.mpr ⟨k, hk, rfl⟩
          rw [e2] at hk2
          obtain ⟨l, hl, e⟩ := List.mem_map.mp hk2
          exact List.mem_map.mpr ⟨l, inus l hl, e⟩⟩⟩
  obtain ⟨b, ks, rfl, e2, h3, kind⟩ := seq
  have len : ks.length = ls.length := by simpa using congrArg List.length e2
  refine .inl (set_wish kind (fun q hq => (h3 q hq).sq) fun c L hc sub all => ?_)
  have m2 := rm_upd (o := SetTO X.prog X.w c L) m1 hc
  have s2 := stp_upd (o := SetTO X.prog X.w c L) m1 hc
  have onL : ∀ q ∈ L, ∃ l ∈ ls, q.2 = [l.1, l.2] := fun q hq => by
    have : q.2 ∈ ls.map (fun q => [q.1, q.2]) := e2 ▸ List.mem_map_of_mem (sub q hq)
    obtain ⟨l, hl, e⟩ := List.mem_map.mp this
    exact ⟨l, hl, e.symm⟩
  obtain ⟨B, hB⟩ := bound2 ls
  have tups : ∀ q ∈ L, TkA X.K (upd H1 c (SetTO X.prog X.w c L)) q.1 (q.2.map V.int) := fun q hq => tA_stp m1 s2 (h3 q (sub q hq))
  refine .inl ⟨c, L, B, rfl, upd_same, fun q hq => (tups q hq).sq, fun q hq => ?_, fun L' p perm nd few' ord hp => ?_⟩
  · obtain ⟨l, hl, e⟩ := onL q hq
    exact ⟨l.1, l.2, e, hB l hl⟩
  · have onL' : ∀ q ∈ L', ∃ l ∈ ls, q.2 = [l.1, l.2] := fun q hq => onL q (perm.mem_iff.mp hq)
    obtain ⟨ms, em⟩ := pts_of (L := L') fun q hq => let ⟨l, _, e⟩ := onL' q hq; ⟨l.1, l.2, e⟩
    have vals : RpL X.K (upd H1 c (SetTO X.prog X.w c L)) A1 (L'.map fun q => V.ref q.1) (ms.map pt2) := pts_rp em fun q hq => tups q (perm.mem_iff.mp hq)
    have mlen : ms.length = L'.length := by simpa using (congrArg List.length em).symm
    have ms_in : ∀ l, l ∈ ms → ∃ q ∈ L', q.2 = [l.1, l.2] := fun l hl => by
      have : [l.1, l.2] ∈ L'.map (·.2) := em ▸ List.mem_map.mpr ⟨l, hl, rfl⟩
      obtain ⟨q, hq, e⟩ := List.mem_map.mp this
      exact ⟨q, hq, e⟩
    refine (hl.stp (s1.trans s2)) _ _ _ _ _ (wish ms (by rw [mlen]; exact few') (fun l => ⟨fun hl => ?_, fun hl => ?_⟩) ?_) (stp_new m2 hp) (rm_new m2 hp vals) (rp_new m2 hp)
    · obtain ⟨q, hq, e⟩ := ms_in l hl
      obtain ⟨l', hl', e'⟩ := onL' q hq
      rw [pt_inj (e.symm.trans e')]; exact hl'
    · have : [l.1, l.2] ∈ ks.map (·.2) := e2 ▸ List.mem_map.mpr ⟨l, hl, rfl⟩
      obtain ⟨q, hq, e⟩ := List.mem_map.mp this
      have h4 := all q hq
      rw [e] at h4
      have h5 : [l.1, l.2] ∈ L'.map (·.2) := (perm.map (·.2)).mem_iff.mpr h4
      rw [em] at h5
      obtain ⟨l', hl', e'⟩ := List.mem_map.mp h5
      rw [← pt_inj e']; exact hl'
    · have o1 : (L'.map (·.2)).Pairwise (fun q r => DPt.rkK B q ≤ DPt.rkK B r) := List.pairwise_map.mpr ord
      rw [em] at o1 nd
      have o2 := List.pairwise_map.mp o1
      have o3 := List.pairwise_map.mp nd
      refine (o2.and o3).imp_of_mem fun {p q} hp hq ⟨le, ne⟩ => ?_
      obtain ⟨q1, hq1, e1⟩ := ms_in p hp
      obtain ⟨l1, hl1, f1⟩ := onL' q1 hq1
      obtain ⟨q2, hq2, e2⟩ := ms_in q hq
      obtain ⟨l2, hl2, f2⟩ := onL' q2 hq2
      have i1 := hB l1 hl1
      have i2 := hB l2 hl2
      rw [← pt_inj (e1.symm.trans f1)] at i1
      rw [← pt_inj (e2.symm.trans f2)] at i2
      have le' : DPt.rk B p.1 p.2 ≤ DPt.rk B q.1 q.2 := le
      unfold Lx
      by_cases h : DPt.rk B p.1 p.2 < DPt.rk B q.1 q.2
      · exact (DPt.rk_lt i1 i2).mp h
      · exfalso
        have n1 : ¬ DPt.rk B q.1 q.2 < DPt.rk B p.1 p.2 := by omega
        rw [DPt.rk_lt i1 i2] at h
        rw [DPt.rk_lt i2 i1] at n1
        apply ne
        have : p.1 = q.1 ∧ p.2 = q.2 := by omega
        rw [this.1, this.2]
/-- a def's call -/
theorem run_fnD (hq : cold fs = true) {pins : List (Addr × Obj)} {s : Shared} {σ : L2.St} {H : Hp} {κ : VK} {addr : Addr} {fd : FuncData} {ps : List Str} {S : DSpec} (g : Good G fs k X) (hb : Binds X.K fd ps []) (F : FnG X.prog X.w X.K X.mg X.base k addr fd ps S)
    (I : L2.Inv X pins σ H s) {us : List Value} {vs : List V} (r : Vals vs us) {A : List Addr} {M : Mem} {ds : List D} {Q : Kn} (rd : RpL X.K H A vs ds) (m : Rm X.K H A M) (h : S ds M Q) (hl : Lf X.K H A Q κ) :
    wpAny (model X.prog X.w) X.A (PySem.call (.ref addr) us) (EP X pins σ κ) X.xe s := by
  have hlen : (us ++ []).length = ps.length := by rw [List.append_nil, ← r.length, rd.length, F.len _ _ _ h]
  have hbn := hb s us I.kIn hlen
  rw [List.append_nil] at hbn
  refine wpAny_call (codeAny_mono (F.run X.A X.stack s H ⟨us, []⟩ us vs A ds M Q κ g.gd (g.room.room (I.ok.hd (g.calm hq))) I.env0 hbn r rd m h hl) fun res s' hq => ?_)
  cases res with
  | error e => exact False.elim hq
  | ok fl =>
    cases fl with
    | ret u => exact I.after hq
    | next => exact False.elim hq
    | brk => exact False.elim hq
    | cont => exact False.elim hq
theorem s_con {f : String} (g : Good G fs k X) (hf : f ∈ fs) (hc : conNames.contains f = true) (h1 : glB X.env.scope (Str.ofString f) = true) (hd : (Str.ofString f == ("__debug__" : Str)) = false) : PE X (.Name (Str.ofString f) pos) (rdE G X.K (.con f)) := by
  obtain ⟨d, v, u, hm, hG, rv, rp⟩ := ((g.fn f hf).cn hc).ex
  refine (pe_glob (glB_ok h1) hm rv hd).weak fun σ H κ ⟨A, ρ, M, Q, hs, hmm, hw, hl⟩ => ?_
  have hw' : G f [] M Q := hw
  rw [hG] at hw'
  exact hl.now hmm (rp H A) hw'.2
theorem s_call {f : String} (g : Good G fs k X) (hq : cold fs = true) (hp : plainK f = true) (hf : f ∈ fs) (hn : conNames.contains f = false) (h1 : glB X.env.scope (Str.ofString f) = true) (hd : (Str.ofString f == ("__debug__" : Str)) = false) (hx : chkA X.N fs xs X.env.scope es = true) (ha : PA X es (rdA G X.K xs)) :
    PE X (.Call (.Name (Str.ofString f) p) es [] pos) (rdE G X.K (.call f xs)) := by
  obtain ⟨addr, fd, ps, hm, hk, hb, F⟩ := ((g.fn f hf).fn hn hp).ex
  refine ⟨fun pins s σ H κ I ⟨A, ρ, M, Q, hs, hmm, hw, hl⟩ => ?_⟩
  refine wpAny_Call_Name_kw (ld_glob I (glB_ok h1) hm ?_ hd)
  cases es with
  | nil =>
    cases chkA_nil hx
    exact PySem.W.callWith_K0 I.kIn hk (run_fnD hq (us := []) g hb F I .nil .nil hmm hw hl)
  | cons e es =>
    obtain ⟨a, r, rfl, hr2⟩ := chkA_tail hx
    have hst : starEach (e :: es) X.env = (false, eval e X.env) :: starEach es X.env := star_of (chkA_star hx)
    refine PySem.W.callWith_K (h₀ := X.base) I.ok.mod.kin hk (thn (ha.run pos pins s σ H (fun vs H1 => ∃ A1 M1 ds, RpL X.K H1 A1 vs ds ∧ Rm X.K H1 A1 M1 ∧ Stp H A H1 A1 ∧ G f ds M1 Q) I ⟨A, ρ, M, _, hs, hmm, hw, fun ds M1 vs H1 A1 q1 s1 m1 r1 => ⟨A1, M1, ds, r1, m1, s1, q1⟩⟩) fun us s1 ⟨vs, H1, I1, rv, A1, M1, ds, r1, m1, st, q1⟩ => ⟨I1.kIn, ?_⟩) hst (any_star hr2)
    exact run_fnD hq g hb F I1 rv r1 m1 q1 (hl.stp st)
/-- a call that may refuse, and does not -/
theorem run_fnE (hq : cold fs = true) {pins : List (Addr × Obj)} {s : Shared} {σ : L2.St} {H : Hp} {κ : VK} {addr : Addr} {fd : FuncData} {ps : List Str} {S : DSpec} (g : Good G fs k X) (hb : Binds X.K fd ps []) (F : FnGX X.prog X.w X.K X.mg X.base k addr fd ps S)
    (I : L2.Inv X pins σ H s) {us : List Value} {vs : List V} (r : Vals vs us) {A : List Addr} {M : Mem} {ds : List D} {Q : Kn} (rd : RpL X.K H A vs ds) (m : Rm X.K H A M) (h : S ds M (spl Q fun _ _ _ => False)) (hl : Lf X.K H A Q κ) :
    wpAny (model X.prog X.w) X.A (PySem.call (.ref addr) us) (EP X pins σ κ) X.xe s := by
  have hlen : (us ++ []).length = ps.length := by rw [List.append_nil, ← r.length, rd.length, F.len _ _ _ h]
  have hbn := hb s us I.kIn hlen
  rw [List.append_nil] at hbn
  have hl2 : Lf X.K H A (spl Q fun _ _ _ => False) κ := fun d M' v H' A' q st m' rp => by
    refine hl d M' v H' A' ?_ st m' rp
    cases rp <;> exact q
  have hE : LfE X.K H A (spl Q fun _ _ _ => False) (fun _ _ _ => False) := fun c fs M' H' A' cls d q st m' ex => q
  refine wpAny_call (codeAny_mono (F.run X.A X.stack s H ⟨us, []⟩ us vs A ds M _ κ _ g.gd (g.room.room (I.ok.hd (g.calm hq))) I.env0 hbn r rd m h hl2 hE) fun res s' hr => ?_)
  cases res with
  | error e =>
    obtain ⟨_, _, _, _, _, _, _, _, _, _, _, _, _, _, _, _, w⟩ := XE.of_call (W := fun _ _ _ _ => False) I (fun _ _ _ h => h) hr
    exact w.elim
  | ok fl =>
    cases fl with
    | ret u => exact I.after hr
    | next => exact False.elim hr
    | brk => exact False.elim hr
    | cont => exact False.elim hr
theorem s_xcl {f f2 : String} (g : Good G fs k X) (hq : cold fs = true) (hk2 : xKeys.lookup f = some f2) (hf : f ∈ fs) (h1 : glB X.env.scope (Str.ofString f2) = true) (hd : (Str.ofString f2 == ("__debug__" : Str)) = false) (hx : chkA X.N fs xs X.env.scope es = true) (ha : PA X es (rdA G X.K xs)) :
    PE X (.Call (.Name (Str.ofString f2) p) es [] pos) (rdE G X.K (.xcl f xs)) := by
  obtain ⟨addr, fd, ps, hm, hk, hb, F⟩ := ((g.fn f hf).xn f2 hk2).ex
  refine ⟨fun pins s σ H κ I ⟨A, ρ, M, Q, hs, hmm, hw, hl⟩ => ?_⟩
  refine wpAny_Call_Name_kw (ld_glob I (glB_ok h1) hm ?_ hd)
  cases es with
  | nil =>
    cases chkA_nil hx
    exact PySem.W.callWith_K0 I.kIn hk (run_fnE hq (us := []) g hb F I .nil .nil hmm hw hl)
  | cons e es =>
    obtain ⟨a, r, rfl, hr2⟩ := chkA_tail hx
    have hst : starEach (e :: es) X.env = (false, eval e X.env) :: starEach es X.env := star_of (chkA_star hx)
    refine PySem.W.callWith_K (h₀ := X.base) I.ok.mod.kin hk (thn (ha.run pos pins s σ H (fun vs H1 => ∃ A1 M1 ds, RpL X.K H1 A1 vs ds ∧ Rm X.K H1 A1 M1 ∧ Stp H A H1 A1 ∧ G f ds M1 (spl Q fun _ _ _ => False)) I ⟨A, ρ, M, _, hs, hmm, hw, fun ds M1 vs H1 A1 q1 s1 m1 r1 => ⟨A1, M1, ds, r1, m1, s1, q1⟩⟩) fun us s1 ⟨vs, H1, I1, rv, A1, M1, ds, r1, m1, st, q1⟩ => ⟨I1.kIn, ?_⟩) hst (any_star hr2)
    exact run_fnE hq g hb F I1 rv r1 m1 q1 (hl.stp st)
/-- a call by another name, in an except suite too -/
theorem run_fnH {pins : List (Addr × Obj)} {s : Shared} {σ : L2.St} {H : Hp} {κ : VK} {addr : Addr} {fd : FuncData} {ps : List Str} {S : DSpec} (g : Good G fs k X) (hb : Binds X.K fd ps []) (F : FnGH X.prog X.w X.K X.mg X.base k addr fd ps S)
    (I : L2.Inv X pins σ H s) {us : List Value} {vs : List V} (r : Vals vs us) {A : List Addr} {M : Mem} {ds : List D} {Q : Kn} (rd : RpL X.K H A vs ds) (m : Rm X.K H A M) (h : S ds M Q) (hl : Lf X.K H A Q κ) :
    wpAny (model X.prog X.w) X.A (PySem.call (.ref addr) us) (EP X pins σ κ) X.xe s := by
  have hlen : (us ++ []).length = ps.length := by rw [List.append_nil, ← r.length, rd.length, F.len _ _ _ h]
  have hbn := hb s us I.kIn hlen
  rw [List.append_nil] at hbn
  refine wpAny_call (codeAny_mono (F.run X.A X.stack s H ⟨us, []⟩ us vs A ds M Q κ g.gd g.room I.env0 hbn r rd m h hl) fun res s' hq => ?_)
  cases res with
  | error e => exact False.elim hq
  | ok fl =>
    cases fl with
    | ret u => exact I.after hq
    | next => exact False.elim hq
    | brk => exact False.elim hq
    | cont => exact False.elim hq
theorem s_calh {f f2 : String} (g : Good G fs k X) (hk2 : hKeys.lookup f = some f2) (hf : f ∈ fs) (h1 : glB X.env.scope (Str.ofString f2) = true) (hd : (Str.ofString f2 == ("__debug__" : Str)) = false) (hx : chkA X.N fs xs X.env.scope es = true) (ha : PA X es (rdA G X.K xs)) :
    PE X (.Call (.Name (Str.ofString f2) p) es [] pos) (rdE G X.K (.calh f xs)) := by
  obtain ⟨addr, fd, ps, hm, hk, hb, F⟩ := ((g.fn f hf).hn f2 hk2).ex
  refine ⟨fun pins s σ H κ I ⟨A, ρ, M, Q, hs, hmm, hw, hl⟩ => ?_⟩
  refine wpAny_Call_Name_kw (ld_glob I (glB_ok h1) hm ?_ hd)
  cases es with
  | nil =>
    cases chkA_nil hx
    exact PySem.W.callWith_K0 I.kIn hk (run_fnH (us := []) g hb F I .nil .nil hmm hw hl)
  | cons e es =>
    obtain ⟨a, r, rfl, hr2⟩ := chkA_tail hx
    have hst : starEach (e :: es) X.env = (false, eval e X.env) :: starEach es X.env := star_of (chkA_star hx)
    refine PySem.W.callWith_K (h₀ := X.base) I.ok.mod.kin hk (thn (ha.run pos pins s σ H (fun vs H1 => ∃ A1 M1 ds, RpL X.K H1 A1 vs ds ∧ Rm X.K H1 A1 M1 ∧ Stp H A H1 A1 ∧ G f ds M1 Q) I ⟨A, ρ, M, _, hs, hmm, hw, fun ds M1 vs H1 A1 q1 s1 m1 r1 => ⟨A1, M1, ds, r1, m1, s1, q1⟩⟩) fun us s1 ⟨vs, H1, I1, rv, A1, M1, ds, r1, m1, st, q1⟩ => ⟨I1.kIn, ?_⟩) hst (any_star hr2)
    exact run_fnH g hb F I1 rv r1 m1 q1 (hl.stp st)
/-! the program's classes -/
theorem ofS_ne : ∀ d ∈ exAll, (Str.ofString d == ("__debug__" : Str)) = false ∧ Str.ofString d ≠ "__name__" := by decide +kernel
theorem cls_pe {T : String} (g : Good G fs k X) (h1 : exAll.contains T = true) (h2 : T ∈ fs) (hg : glB X.env.scope (Str.ofString T) = true) : PE X (.Name (Str.ofString T) pos) (tC (clsV X.K T)) := by
  have E := (g.fn T h2).en h1
  obtain ⟨d1, d2⟩ := ofS_ne T (by simpa using h1)
  by_cases e : T = "ValueError"
  · have hm := E.bi e
    subst e
    exact pe_bltn (v := .ty "ValueError") (glB_ok hg) hm (by decide +kernel) rfl d2 d1
  · unfold clsV
    rw [if_neg e]
    exact pe_glob (glB_ok hg) (E.own e) rfl d1
/-- what a held refusal and a class answer -/
theorem isx_of {A : List Addr} {M : Mem} {H : Hp} {x : V} {d : D} {T : List String} {b : Bool} (hT : ∀ c ∈ T, exAll.contains c = true ∧ ExC X.K X.mg c) (m : Rm X.K H A M) (r : Rp X.K H A x d) (h : isxD T d = some b) :
    ∃ t, IsQ X.K H x t ∧ (∀ c ∈ T, ∃ z, PySem.W.kitOne X.K t (clsX X.K c) = some z) ∧ PySem.W.kitAny X.K t (T.map (clsX X.K)) = some b := by
  cases r with
  | exc xa e1 e2 hn l =>
    cases h
    rename_i a dx c vs ds
    have one : ∀ d ∈ T, PySem.W.kitOne X.K (.ref (clsA X.K c)) (clsX X.K d) = some (subX c d) := fun d hd => (xa.al d (by simpa using (hT d hd).1) (hT d hd).2.ok).kit
    refine ⟨_, .exc xa.cc e1 e2, fun d hd => ⟨_, one d hd⟩, ?_⟩
    clear hT
    induction T with
    | nil => rfl
    | cons d r ih =>
      rw [List.map_cons, List.any_cons]
      refine kitAny_cons (one d List.mem_cons_self) (fun e => ?_) fun e => by rw [e, Bool.true_or]
      rw [e, Bool.false_or]
      exact ih fun d hd => one d (List.mem_cons_of_mem _ hd)
  | non =>
    cases h
    refine ⟨_, .non, fun d hd => ⟨_, (hT d hd).2.no⟩, ?_⟩
    induction T with
    | nil => rfl
    | cons d r ih =>
      rw [List.map_cons]
      exact kitAny_cons ((hT d List.mem_cons_self).2.no) (fun _ => ih fun d hd => hT d (List.mem_cons_of_mem _ hd)) fun e => by cases e
  | _ => cases h
theorem kitAny_one {K : Frg} {t c : Value} {b : Bool} (h : PySem.W.kitAny K t [c] = some b) : PySem.W.kitOne K t c = some b := by
  unfold PySem.W.kitAny at h
  split at h
  · rename_i e; rw [e]; exact h
  · rename_i e
    unfold PySem.W.kitAny at h
    rw [e]; exact h
  · cases h
theorem s_isx1 {T : String} (g : Good G fs k X) (h1 : glB X.env.scope (Str.ofString "isinstance") = true) (h2 : glB X.env.scope (Str.ofString T) = true) (hT : exAll.contains T = true) (hT2 : T ∈ fs) (hx : noStar x = true) (ha : PE X x (rdE G X.K a)) :
    PE X (.Call (.Name (Str.ofString "isinstance") p) [x, .Name (Str.ofString T) q] [] pos) (rdE G X.K (.isx a [T])) := by
  refine (pe_callB (call_isx T) (glB_ok h1) (g.bi _ (by decide)) (by decide +kernel) (pa_cons ha (pa_cons (cls_pe g hT hT2 h2) pa_nil) (star_of hx)) (by decide +kernel) (by decide +kernel) (star_of hx)).weak fun σ H κ ⟨A, ρ, M, Q, hs, hm, hw, hl⟩ =>
    ⟨A, ρ, M, _, hs, hm, hw, fun d1 M1 v1 H1 A1 q0 s1 m1 r1 => ?_⟩
  obtain ⟨b, e, q1⟩ := onV_ex q0
  obtain ⟨t, iq, _, ka⟩ := isx_of (X := X) (T := [T]) (fun c hc => by rw [List.mem_singleton.mp hc]; exact ⟨hT, (g.fn T hT2).en hT⟩) m1 r1 e
  exact ⟨b, v1, t, rfl, iq, kitAny_one ka, (hl.stp s1).bl m1 q1⟩
theorem cls_pa (g : Good G fs k X) : ∀ (T : List String) (es : List Expr), exNameB X.env.scope fs T es = true → (∀ c ∈ T, exAll.contains c = true ∧ c ∈ fs) ∧ PA X es (fun σ H Q => Q (T.map (clsV X.K)) H) ∧ T.length = es.length
  | [], [], _ => ⟨fun _ h => (by cases h), pa_nil.weak fun _ _ _ h => h, rfl⟩
  | [], _ :: _, h => by simp [exNameB] at h
  | _ :: _, [], h => by simp [exNameB] at h
  | T :: r, e :: es, h => by
    cases e with
    | Name y py =>
      simp only [exNameB, Bool.and_eq_true, decide_eq_true_eq, List.contains_iff_mem] at h
      obtain ⟨⟨⟨⟨rfl, h2⟩, h3⟩, h4⟩, h5⟩ := h
      obtain ⟨i1, i2, i3⟩ := cls_pa g r es h5
      have h3' : exAll.contains T = true := by simpa using h3
      refine ⟨fun c hc => ?_, (pa_cons (cls_pe g h3' h4 h2) i2).weak fun σ H Q h => h, by simp [i3]⟩
      rcases List.mem_cons.mp hc with rfl | hc
      · exact ⟨h3', h4⟩
      · exact i1 c hc
    | _ => simp [exNameB] at h
theorem s_isxT {T : List String} {n : Nat} (g : Good G fs k X) (h1 : glB X.env.scope (Str.ofString "isinstance") = true) (hT : exNameB X.env.scope fs T es = true) (hn : es.length ≤ 1000) (hx : noStar x = true) (ha : PE X x (rdE G X.K a)) :
    PE X (.Call (.Name (Str.ofString "isinstance") p) [x, .Tuple es n q] [] pos) (rdE G X.K (.isx a T)) := by
  obtain ⟨hc, hp, hlen⟩ := cls_pa g T es hT
  refine (pe_callB (call_isxT T) (glB_ok h1) (g.bi _ (by decide)) (by decide +kernel) (pa_cons ha (pa_cons (pe_tup hp) pa_nil) (star_of hx)) (by decide +kernel) (by decide +kernel) (star_of hx)).weak fun σ H κ ⟨A, ρ, M, Q, hs, hm, hw, hl⟩ =>
    ⟨A, ρ, M, _, hs, hm, hw, fun d1 M1 v1 H1 A1 q0 s1 m1 r1 => ⟨by rw [List.length_map, hlen, sizeLine_eq]; omega, fun tp htp => ?_⟩⟩
  obtain ⟨b, e, q1⟩ := onV_ex q0
  have s2 := stp_upd (o := .tup (T.map (clsV X.K))) m1 htp
  obtain ⟨t, iq, _, ka⟩ := isx_of (X := X) (T := T) (fun c h => ⟨(hc c h).1, (g.fn c (hc c h).2).en (hc c h).1⟩) (rm_upd m1 htp) (r1.stp m1 s2) e
  exact ⟨v1, t, tp, b, rfl, upd_same, iq, ka, ((hl.stp s1).stp s2).bl (rm_upd m1 htp) q1⟩
/-- e.f -/
theorem lookup_putG {α : Type} (f g : Str) (y : α) (fs : List (Str × α)) : ((f, y) :: fs).lookup g = if g = f then some y else fs.lookup g := by
  by_cases h : g = f
  · subst h
    simp [List.lookup]
  · rw [if_neg h, List.lookup, show (g == f) = false by simpa using h]
theorem zip_rev_lookup {K : Frg} {H : Hp} {A : List Addr} {c : String} {vs : List V} {ds : List D} {n : Str} {d : D} (hl : vs.length = (xFlds c).length) (l : RpL K H A vs ds) (h : ((xFlds c).zip ds).lookup n = some d) :
    n ∈ xFlds c ∧ ∃ v, (((xFlds c).zip vs).reverse).lookup n = some v ∧ Rp K H A v d := by
  have two : ∀ (f : List Str), f.Nodup → f.length ≤ 2 → ∀ {vs : List V} {ds : List D}, vs.length = f.length → RpL K H A vs ds → (f.zip ds).lookup n = some d → n ∈ f ∧ ∃ v, ((f.zip vs).reverse).lookup n = some v ∧ Rp K H A v d := by
    intro f nd few vs ds hl l h
    match f, vs, ds, l, nd, hl, h with
    | [], _, _, _, _, _, h => cases h
    | [f1], [v1], [d1], .cons r1 .nil, _, _, h =>
      simp only [List.zip_cons_cons, List.zip_nil_left, List.reverse_cons, List.reverse_nil, List.nil_append, lookup_putG] at h ⊢
      split at h
      · rename_i e; cases h; exact ⟨by rw [e]; exact List.mem_cons_self, v1, by rw [if_pos e], r1⟩
      · cases h
    | [f1, f2], [v1, v2], [d1, d2], .cons r1 (.cons r2 .nil), nd, _, h =>
      have ne : f1 ≠ f2 := by simpa using nd
      simp only [List.zip_cons_cons, List.zip_nil_left, List.reverse_cons, List.reverse_nil, List.nil_append, List.cons_append, lookup_putG] at h ⊢
      split at h
      · rename_i e
        cases h
        subst e
        exact ⟨List.mem_cons_self, v1, by rw [if_neg ne, if_pos rfl], r1⟩
      · split at h
        · rename_i e
          cases h
          exact ⟨by rw [e]; simp, v2, by rw [if_pos e], r2⟩
        · cases h
    | _ :: _ :: _ :: _, _, _, _, _, _, _ => simp at few
  exact two _ (by unfold xFlds; split <;> decide) (xFlds_few c) hl l h
theorem s_fld {n : String} {m : Str} (hm : m = Str.ofString n) (hb : attributeBase x m X.env (eval x X.env) = eval x X.env) (ha : PE X x (rdE G X.K a)) : PE X (.Attribute x m pos) (rdE G X.K (.fld a n)) :=
  (pe_fld ha hb).weak fun σ H κ ⟨A, ρ, M, Q, hs, hmm, hw, hl⟩ => ⟨A, ρ, M, _, hs, hmm, hw, fun d1 M1 v1 H1 A1 q0 s1 m1 r1 => by
    obtain ⟨d, e, q1⟩ := onV_ex q0
    cases r1 with
    | exc xa e1 e2 hn l =>
      obtain ⟨h1, v, h2, h3⟩ := zip_rev_lookup hn l e
      subst hm
      exact ⟨_, _, _, _, v, rfl, xa.cc, h1, e1, e2, h2, (hl.stp s1).now m1 h3 q1⟩
    | _ => cases e⟩
theorem base_of (h : baseB x = true) {n : Str} : attributeBase x n X.env (eval x X.env) = eval x X.env := by
  cases x <;> first | rfl | cases h
end
end DL

set_option Elab.async false
set_option linter.all false
set_option maxRecDepth 100000
set_option maxHeartbeats 4000000
namespace DL
open PySem L2 PySem.Spec PyProof.Rows
theorem adj_rev (n : Nat) : Builtin.Slice.sliceAdjust none none (-1) (n : Int) = ((n : Int) - 1, -1) := by
  unfold Builtin.Slice.sliceAdjust
  first | rfl | simp | (simp; omega)
theorem places_rev (n : Nat) : Builtin.Slice.slicePlaces ((n : Int) - 1) (-1) (-1) = n := by
  unfold Builtin.Slice.slicePlaces
  rw [if_neg (by decide)]
  by_cases h : n = 0
  · subst h; rfl
  · rw [if_pos (by omega)]
    have : ((n : Int) - 1 - -1 - 1) / (- -1) + 1 = (n : Int) := by simp
    rw [this]; simp
theorem pick_rev (xs : Array Value) : ((List.range xs.size).filterMap fun (m : Nat) => xs[(((xs.size : Int) - 1) + (m : Int) * (-1)).toNat]?) = xs.toList.reverse := by
  have h1 : ((List.range xs.size).filterMap fun (m : Nat) => xs[(((xs.size : Int) - 1) + (m : Int) * (-1)).toNat]?) = ((List.range xs.size).map fun (m : Nat) => xs.size - 1 - m).filterMap (xs[·]?) := by
    rw [List.filterMap_map]
    congr 1
    funext m
    show xs[_]? = xs[_]?
    congr 1
    show ((xs.size : Int) - 1 + (m : Int) * (-1)).toNat = xs.size - 1 - m
    omega
  rw [h1, PySem.W.krv_range, List.filterMap_reverse, PySem.W.krv_all]
section
variable {prog : Program} {w : World} {A : Around} {E : Value → Shared → Prop} {s : Shared}
theorem cut_back {sl : Addr} {n : Nat} {t : Tok} {R : Int × Int × Nat → Shared → Prop} (hsl : s.heap.IsSliceOf sl .none .none (.int (-1) t)) (q : R ((n : Int) - 1, -1, n) s) :
    wpAny (model prog w) A (Builtin.Slice.sliceApplied (.ref sl) (pure (n : Int))) R E s := by
  obtain ⟨ob, h1, h2, h3⟩ := id hsl
  unfold Builtin.Slice.sliceApplied
  unfold Builtin.Slice.sliceFields
  refine wpAny_bind (wpAny_bind (wpAny_field h1 h3 (x := .none) rfl
    (wpAny_bind (wpAny_field h1 h3 (x := .none) rfl (wpAny_bind
      (wpAny_field h1 h3 (x := .int (-1) t) rfl (wpAny_pure ?_)))))))
  refine wpAny_bind (slicePart_int ?_)
  show wpAny _ _ (if (((-1) : Int) == 0) = true then _ else _) _ _ _
  rw [if_neg (by decide)]
  refine wpAny_bind (slicePart_none (wpAny_bind (slicePart_none
    (wpAny_bind (wpAny_pure ?_)))))
  show wpAny _ _ (match Builtin.Slice.sliceAdjust none none (-1) (n : Int) with
    | (lo, hi) => pure (lo, (-1 : Int), Builtin.Slice.slicePlaces lo hi (-1))) _ _ _
  rw [adj_rev n]
  show wpAny _ _ (pure ((n : Int) - 1, (-1 : Int), Builtin.Slice.slicePlaces ((n : Int) - 1) (-1) (-1))) _ _ _
  rw [places_rev]
  exact wpAny_pure q
theorem tup_back {t sl : Addr} {its : Array Value} {tk : Tok} {R : Value → Shared → Prop} (ht : IsTup s.heap t its) (hsl : s.heap.IsSliceOf sl .none .none (.int (-1) tk))
    (q : R (.ref s.heap.objs.size) { s with heap := s.heap.push { cls := .type "tuple", data := .seq its.toList.reverse.toArray } }) (hz : its.size ≤ sizeLine) :
    wpAny (model prog w) A (getItem (.ref t) (.ref sl)) R E s := by
  have small : sizeOk (.seq its.toList.reverse.toArray) := by
    show its.toList.reverse.toArray.size ≤ sizeLine
    simpa using hz
  obtain ⟨ob, h1, h2, _⟩ := id hsl
  have hty : s.TypeIs (.ref sl) "slice" := ⟨ob, h1, h2⟩
  unfold getItem
  try with_reducible refine wpAny_holding ?_
  first | refine wpAny_bind (wpAny_pure ?_) | skip
  refine wpAny_bind
    (wpAny_sequenceKey ht.typeIs (by decide) ?_)
  refine wpAny_bind (wpAny_callSpecial?_slot (name := Str.ofString "__getitem__")
    ht.typeIs PyProof.Rows.slot_tuple_getitem (wpAny_call_entry
      PyProof.Rows.slot_tuple_getitem ht.typeIs entry_tuple_getitem ?_
        (args_tuple_getitem _ _)))
  show wpAny _ _ (Builtin.Tuple.tupleItemsOf (.ref t) >>= _) _ _ _
  refine wpAny_bind (tupleItemsOf_ ht (wpAny_bind (wpAny_typeOf hty ?_)))
  rw [if_pos (by decide)]
  refine wpAny_bind (cut_back hsl ?_)
  have no : ¬ ((((its.size : Int) - 1) == 0 && (-1 : Int) == 1 && its.size == its.size) = true) := by
    intro z
    rw [Bool.and_eq_true, Bool.and_eq_true] at z
    exact absurd z.1.2 (by decide)
  show wpAny _ _ (if (((its.size : Int) - 1) == 0 && (-1 : Int) == 1 && its.size == its.size) = true then _ else _) _ _ _
  rw [if_neg no, pick_rev]
  first
    | exact wpAny_bind (m := Builtin.Tuple.tupleExact _)
        (wpAny_newObj_type (wpAny_pure ⟨_, rfl, wpAny_pure q⟩) small)
    | exact wpAny_bind (wpAny_bind (m := Builtin.Tuple.tupleExact _)
        (wpAny_newObj_type (wpAny_pure ⟨_, rfl, wpAny_pure q⟩) small))
    | exact wpAny_bind (wpAny_bind (m := Builtin.Tuple.tupleExact _)
        (wpAny_newObj_type (wpAny_pure (wpAny_pure ⟨_, rfl, wpAny_pure q⟩)) small))
end
section
variable {X : Cx} {G : Gam} {fs : List String} {k : Nat} {pos p q : Pos} {x y z : Expr} {a b c : IE} {es : List Expr} {xs : IE}
theorem at_slice {e : Expr} {te : TE} {n : Nat} {p1 p2 p3 : Pos} {r : V → Hp → VK → Prop} (he : PE X e te)
    (hr : ∀ (pins : List (Addr × Obj)) (s : Shared) (σ : L2.St) (H : Hp) (v : V) (u : Value) (sl : Addr) (tk : Tok) (Q : VK), L2.Inv X pins σ H s → RelV v u → s.heap.IsSliceOf sl .none .none (.int (-1) tk) → r v H Q →
      ∃ T id, typeLookup (.type T) "__getitem__" = pure (some (.builtin id)) ∧ s.TypeIs u T ∧ wpAny (model X.prog X.w) X.A (getItem u (.ref sl)) (EP X pins σ Q) X.xe s) :
    PE X (.Subscript e (.Slice none none (some (.UnaryOp .USub (.Constant (.int 1) n p1) p2)) p3) pos) (fun σ H Q => te σ H fun v H1 => r v H1 Q) := by
  refine ⟨fun pins s σ H Q I h => ?_⟩
  refine Subscript_ (thn (he.run pins s σ H _ I h)
    fun v s1 ⟨x, H1, I1, r1, q1⟩ => ?_)
  have step : PO X (some (.UnaryOp .USub (.Constant (.int 1) n p1) p2)) (tPart (tUn (rU fun i => .int (-i)) (tC (.int 1)))) :=
    po_some (pe_un un_neg pe_int)
  refine wpAny_Slice (thn (po_none.run pins s1 σ H1
    (fun o H2 => o = none ∧ H2 = H1) I1 ⟨rfl, rfl⟩) fun vl s2 ⟨l, H2, I2, pl, el, e2⟩ => ?_)
  subst el
  subst e2
  refine thn (po_none.run pins s2 σ H2
    (fun o H3 => o = none ∧ H3 = H2) I2 ⟨rfl, rfl⟩) fun vu s3 ⟨u, H3, I3, pu, eu, e3⟩ => ?_
  subst eu
  subst e3
  refine thn (step.run pins s3 σ H3
    (fun o H4 => o = some (-1) ∧ H4 = H3) I3 ⟨1, rfl, -1, rfl, rfl, rfl⟩) fun vs s4 ⟨o, H4, I4, ps, eo, e4⟩ => ?_
  subst eo
  subst e4
  have en : vl = .none := by cases pl; rfl
  have eu : vu = .none := by cases pu; rfl
  obtain ⟨tk, ek⟩ : ∃ tk, vs = .int (-1) tk := by cases ps; exact ⟨_, rfl⟩
  subst en
  subst eu
  subst ek
  have I5 : L2.Inv X pins σ H4 { s4 with heap := s4.heap.push { cls := .type "slice", data := .fields #[.none, .none, .int (-1) tk] } } :=
    I4.kept (t' := s4.toks) fun b ob q => Heap.get?_push_of_some _ q
  obtain ⟨T, id, hT, ht, hg⟩ := hr pins _ σ H4 x v s4.heap.objs.size tk Q I5 r1 (Heap.IsSliceOf.new ..) q1
  exact tail_any (ops := [v, .ref s4.heap.objs.size]) ht hT hg (by with_unfolding_all rfl)
def rRev (K : Frg) : V → Hp → VK → Prop := fun v H κ => ∃ A M d Q, Rp K H A v d ∧ Rm K H A M ∧ revD d M Q ∧ Lf K H A Q κ
theorem s_rev {n : Nat} {p1 p2 p3 : Pos} (ha : PE X x (rdE G X.K a)) : PE X (.Subscript x (.Slice none none (some (.UnaryOp .USub (.Constant (.int 1) n p1) p2)) p3) pos) (rdE G X.K (.rev a)) := by
  refine (at_slice (r := rRev X.K) ha ?_).weak fun σ H κ ⟨A, ρ, M, Q, hs, hm, hw, hl⟩ => ⟨A, ρ, M, _, hs, hm, hw, fun d1 M1 v1 H1 A1 q1 s1 m1 r1 => ⟨A1, M1, d1, _, r1, m1, q1, hl.stp s1⟩⟩
  intro pins s σ H v u sl tk κ I r hsl ⟨A, M, d, Q, hx, hm, hb, hl⟩
  cases hx <;> first | exact False.elim hb | skip
  · rename_i t vs ds ht la
    cases r
    obtain ⟨its, rv, hit, hz⟩ := I.tuple ht.sq
    refine ⟨"tuple", _, PyProof.Rows.slot_tuple_getitem.lookup, hit.typeIs, tup_back hit hsl ?_ (by rw [List.size_toArray, ← rv.length]; exact hz)⟩
    have hf := I.hok.fresh (Nat.le_refl s.heap.objs.size)
    refine ⟨.ref s.heap.objs.size, upd H s.heap.objs.size (.tup vs.reverse), I.laid (t' := s.toks) (fun b ob q => Heap.get?_push_of_some _ q) (Nat.le_refl _) ⟨by rw [List.length_reverse]; exact hz, _, rv.reverse, IsTup.new _ _⟩, rfl, hl.newT hm la.reverse hb _ hf⟩
  · rename_i l n hl' hlk
    obtain ⟨xs, e, q⟩ := onV_ex hb
    obtain ⟨vs, h1, l1⟩ := hm.list hl' hlk e
    cases r
    obtain ⟨its, rv, hit, hz⟩ := I.list (SqL.of h1)
    refine ⟨"list", _, PySem.slot_list_getitem.lookup, hit.isList.typeIs, wpAny_getItem_list_slice hit.isList hsl .none .none (.int _ _) (by decide) ?_ (by rw [List.size_toArray, ← rv.length]; exact hz)⟩
    rw [PySem.W.krv_pick]
    have hf := I.hok.fresh (Nat.le_refl s.heap.objs.size)
    exact ⟨.ref s.heap.objs.size, upd H s.heap.objs.size (.lst vs.reverse), I.laid (t' := s.toks) (fun b ob q => Heap.get?_push_of_some _ q) (Nat.le_refl _) ⟨by rw [List.length_reverse]; exact hz, _, 0, rv.reverse, Heap.get?_push_size _ rfl⟩, rfl, hl.newL hm l1.reverse q _ hf⟩
end
/-! two more slices of a tuple: every second one; all but the first turned about -/
theorem adj_two (n : Nat) : Builtin.Slice.sliceAdjust none none 2 (n : Int) = (0, (n : Int)) := by
  unfold Builtin.Slice.sliceAdjust
  first | rfl | simp | (simp; omega)
theorem places_two (n : Nat) : Builtin.Slice.slicePlaces 0 (n : Int) 2 = (n + 1) / 2 := by
  unfold Builtin.Slice.slicePlaces
  rw [if_pos (by decide)]
  by_cases h : n = 0
  · subst h; rfl
  · rw [if_pos (by omega)]
    omega
theorem adj_bk (n : Nat) : Builtin.Slice.sliceAdjust none (some 0) (-1) (n : Int) = ((n : Int) - 1, min 0 ((n : Int) - 1)) := by
  unfold Builtin.Slice.sliceAdjust
  first | rfl | simp | (simp; omega)
theorem places_bk (n : Nat) : Builtin.Slice.slicePlaces ((n : Int) - 1) (min 0 ((n : Int) - 1)) (-1) = n - 1 := by
  unfold Builtin.Slice.slicePlaces
  rw [if_neg (by decide)]
  by_cases h : n ≤ 1
  · rw [if_neg (by omega)]
    omega
  · rw [if_pos (by omega)]
    have e : min 0 ((n : Int) - 1) = 0 := by omega
    rw [e]
    have : ((n : Int) - 1 - 0 - 1) / (- -1) + 1 = (n : Int) - 1 := by simp
    rw [this]; omega
def evs {α : Type} : List α → List α
  | [] => []
  | [x] => [x]
  | x :: _ :: r => x :: evs r
theorem ev2_evs : ∀ xs : List D, ev2 xs = evs xs
  | [] => rfl
  | [x] => rfl
  | x :: _ :: r => by rw [ev2, evs, ev2_evs r]
theorem evs_get {α : Type} : ∀ xs : List α, evs xs = (List.range ((xs.length + 1) / 2)).filterMap fun m => xs[2 * m]?
  | [] => by simp [evs]
  | [x] => by
    have : ([x].length + 1) / 2 = 1 := by simp
    rw [this, show List.range 1 = [0] from rfl]
    simp [evs]
  | x :: y :: r => by
    have e : (x :: y :: r).length = r.length + 2 := rfl
    rw [evs, evs_get r, e, show (r.length + 2 + 1) / 2 = (r.length + 1) / 2 + 1 by omega, List.range_succ_eq_map, List.filterMap_cons]
    simp only [Nat.mul_zero, List.getElem?_cons_zero]
    congr 1
    rw [List.filterMap_map]
    congr 1
theorem evs_len {α : Type} : ∀ xs : List α, (evs xs).length ≤ xs.length
  | [] => Nat.le_refl _
  | [x] => Nat.le_refl _
  | x :: y :: r => by
    have := evs_len r
    simp only [evs, List.length_cons]
    omega
theorem pick_two (xs : Array Value) : ((List.range ((xs.size + 1) / 2)).filterMap fun (m : Nat) => xs[((0 : Int) + (m : Int) * 2).toNat]?) = evs xs.toList := by
  rw [evs_get]
  congr 1
  funext m
  have : ((0 : Int) + (m : Int) * 2).toNat = 2 * m := by omega
  rw [this]
  simp
theorem pick_bk (xs : Array Value) : ((List.range (xs.size - 1)).filterMap fun (m : Nat) => xs[(((xs.size : Int) - 1) + (m : Int) * (-1)).toNat]?) = xs.toList.tail.reverse := by
  have h := pick_rev xs
  have hs : xs.toList.length = xs.size := by simp
  by_cases h0 : xs.size = 0
  · have : xs.toList = [] := List.length_eq_zero_iff.mp (by omega)
    rw [this, h0]; rfl
  · obtain ⟨k, hk⟩ : ∃ k, xs.size = k + 1 := ⟨xs.size - 1, by omega⟩
    rw [hk, List.range_succ, List.filterMap_append] at h
    have e1 : xs.size - 1 = k := by omega
    rw [e1]
    cases hl : xs.toList with
    | nil => rw [hl] at hs; simp at hs; omega
    | cons x r =>
      rw [hl] at h
      simp only [List.reverse_cons, List.tail_cons] at h ⊢
      have z : xs[0]? = some x := by
        have : xs.toList[0]? = some x := by rw [hl]; rfl
        simpa using this
      have last : ([k].filterMap fun (m : Nat) => xs[((((k + 1 : Nat) : Int)) - 1 + (m : Int) * (-1)).toNat]?) = [x] := by
        have : ((((k + 1 : Nat) : Int)) - 1 + (k : Int) * (-1)).toNat = 0 := by omega
        simp only [List.filterMap_cons, List.filterMap_nil, this, z]
      rw [last] at h
      have := List.append_inj_left' h rfl
      rw [← this, hk]
section
variable {prog : Program} {w : World} {A : Around} {E : Value → Shared → Prop} {s : Shared}
theorem cut_two {sl : Addr} {n : Nat} {t : Tok} {R : Int × Int × Nat → Shared → Prop} (hsl : s.heap.IsSliceOf sl .none .none (.int 2 t)) (q : R (0, 2, (n + 1) / 2) s) :
    wpAny (model prog w) A (Builtin.Slice.sliceApplied (.ref sl) (pure (n : Int))) R E s := by
  obtain ⟨ob, h1, h2, h3⟩ := id hsl
  unfold Builtin.Slice.sliceApplied
  unfold Builtin.Slice.sliceFields
  refine wpAny_bind (wpAny_bind (wpAny_field h1 h3 (x := .none) rfl
    (wpAny_bind (wpAny_field h1 h3 (x := .none) rfl (wpAny_bind
      (wpAny_field h1 h3 (x := .int 2 t) rfl (wpAny_pure ?_)))))))
  refine wpAny_bind (slicePart_int ?_)
  show wpAny _ _ (if ((2 : Int) == 0) = true then _ else _) _ _ _
  rw [if_neg (by decide)]
  refine wpAny_bind (slicePart_none (wpAny_bind (slicePart_none
    (wpAny_bind (wpAny_pure ?_)))))
  show wpAny _ _ (match Builtin.Slice.sliceAdjust none none 2 (n : Int) with
    | (lo, hi) => pure (lo, (2 : Int), Builtin.Slice.slicePlaces lo hi 2)) _ _ _
  rw [adj_two n]
  show wpAny _ _ (pure ((0 : Int), (2 : Int), Builtin.Slice.slicePlaces 0 (n : Int) 2)) _ _ _
  rw [places_two]
  exact wpAny_pure q
theorem cut_bk {sl : Addr} {n : Nat} {t t0 : Tok} {R : Int × Int × Nat → Shared → Prop} (hsl : s.heap.IsSliceOf sl .none (.int 0 t0) (.int (-1) t)) (q : R ((n : Int) - 1, -1, n - 1) s) :
    wpAny (model prog w) A (Builtin.Slice.sliceApplied (.ref sl) (pure (n : Int))) R E s := by
  obtain ⟨ob, h1, h2, h3⟩ := id hsl
  unfold Builtin.Slice.sliceApplied
  unfold Builtin.Slice.sliceFields
  refine wpAny_bind (wpAny_bind (wpAny_field h1 h3 (x := .none) rfl
    (wpAny_bind (wpAny_field h1 h3 (x := .int 0 t0) rfl (wpAny_bind
      (wpAny_field h1 h3 (x := .int (-1) t) rfl (wpAny_pure ?_)))))))
  refine wpAny_bind (slicePart_int ?_)
  show wpAny _ _ (if (((-1) : Int) == 0) = true then _ else _) _ _ _
  rw [if_neg (by decide)]
  refine wpAny_bind (slicePart_none (wpAny_bind (slicePart_int
    (wpAny_bind (wpAny_pure ?_)))))
  show wpAny _ _ (match Builtin.Slice.sliceAdjust none (some 0) (-1) (n : Int) with
    | (lo, hi) => pure (lo, (-1 : Int), Builtin.Slice.slicePlaces lo hi (-1))) _ _ _
  rw [adj_bk n]
  show wpAny _ _ (pure ((n : Int) - 1, (-1 : Int), Builtin.Slice.slicePlaces ((n : Int) - 1) (min 0 ((n : Int) - 1)) (-1))) _ _ _
  rw [places_bk]
  exact wpAny_pure q
theorem tup_cut {t sl : Addr} {its : Array Value} {ys : List Value} {a b c : Value} {lo st : Int} {m : Nat} {R : Value → Shared → Prop} (ht : IsTup s.heap t its) (hsl : s.heap.IsSliceOf sl a b c)
    (cut : ∀ (A' : Around) (R' : Int × Int × Nat → Shared → Prop), R' (lo, st, m) s → wpAny (model prog w) A' (Builtin.Slice.sliceApplied (.ref sl) (pure (its.size : Int))) R' E s)
    (no : ¬ ((lo == 0 && st == 1 && m == its.size) = true)) (pick : ((List.range m).filterMap fun (m : Nat) => its[(lo + (m : Int) * st).toNat]?) = ys)
    (q : R (.ref s.heap.objs.size) { s with heap := s.heap.push { cls := .type "tuple", data := .seq ys.toArray } }) (hz : ys.length ≤ sizeLine) :
    wpAny (model prog w) A (getItem (.ref t) (.ref sl)) R E s := by
  have small : sizeOk (.seq ys.toArray) := by
    show ys.toArray.size ≤ sizeLine
    simpa using hz
  obtain ⟨ob, h1, h2, _⟩ := id hsl
  have hty : s.TypeIs (.ref sl) "slice" := ⟨ob, h1, h2⟩
  unfold getItem
  try with_reducible refine wpAny_holding ?_
  first | refine wpAny_bind (wpAny_pure ?_) | skip
  refine wpAny_bind
    (wpAny_sequenceKey ht.typeIs (by decide) ?_)
  refine wpAny_bind (wpAny_callSpecial?_slot (name := Str.ofString "__getitem__")
    ht.typeIs PyProof.Rows.slot_tuple_getitem (wpAny_call_entry
      PyProof.Rows.slot_tuple_getitem ht.typeIs entry_tuple_getitem ?_
        (args_tuple_getitem _ _)))
  show wpAny _ _ (Builtin.Tuple.tupleItemsOf (.ref t) >>= _) _ _ _
  refine wpAny_bind (tupleItemsOf_ ht (wpAny_bind (wpAny_typeOf hty ?_)))
  rw [if_pos (by decide)]
  refine wpAny_bind (cut _ _ ?_)
  show wpAny _ _ (if (lo == 0 && st == 1 && m == its.size) = true then _ else _) _ _ _
  rw [if_neg no, pick]
  first
    | exact wpAny_bind (m := Builtin.Tuple.tupleExact _)
        (wpAny_newObj_type (wpAny_pure ⟨_, rfl, wpAny_pure q⟩) small)
    | exact wpAny_bind (wpAny_bind (m := Builtin.Tuple.tupleExact _)
        (wpAny_newObj_type (wpAny_pure ⟨_, rfl, wpAny_pure q⟩) small))
    | exact wpAny_bind (wpAny_bind (m := Builtin.Tuple.tupleExact _)
        (wpAny_newObj_type (wpAny_pure (wpAny_pure ⟨_, rfl, wpAny_pure q⟩)) small))
end
section
variable {X : Cx} {G : Gam} {fs : List String} {k : Nat} {pos p q : Pos} {x y z : Expr} {a b c : IE} {es : List Expr} {xs : IE}
theorem at_two {e : Expr} {te : TE} {n : Nat} {p1 p3 : Pos} {r : V → Hp → VK → Prop} (he : PE X e te)
    (hr : ∀ (pins : List (Addr × Obj)) (s : Shared) (σ : L2.St) (H : Hp) (v : V) (u : Value) (sl : Addr) (tk : Tok) (Q : VK), L2.Inv X pins σ H s → RelV v u → s.heap.IsSliceOf sl .none .none (.int 2 tk) → r v H Q →
      ∃ T id, typeLookup (.type T) "__getitem__" = pure (some (.builtin id)) ∧ s.TypeIs u T ∧ wpAny (model X.prog X.w) X.A (getItem u (.ref sl)) (EP X pins σ Q) X.xe s) :
    PE X (.Subscript e (.Slice none none (some (.Constant (.int 2) n p1)) p3) pos) (fun σ H Q => te σ H fun v H1 => r v H1 Q) := by
  refine ⟨fun pins s σ H Q I h => ?_⟩
  refine Subscript_ (thn (he.run pins s σ H _ I h)
    fun v s1 ⟨x, H1, I1, r1, q1⟩ => ?_)
  have step : PO X (some (.Constant (.int 2) n p1)) (tPart (tC (.int 2))) :=
    po_some pe_int
  refine wpAny_Slice (thn (po_none.run pins s1 σ H1
    (fun o H2 => o = none ∧ H2 = H1) I1 ⟨rfl, rfl⟩) fun vl s2 ⟨l, H2, I2, pl, el, e2⟩ => ?_)
  subst el
  subst e2
  refine thn (po_none.run pins s2 σ H2
    (fun o H3 => o = none ∧ H3 = H2) I2 ⟨rfl, rfl⟩) fun vu s3 ⟨u, H3, I3, pu, eu, e3⟩ => ?_
  subst eu
  subst e3
  refine thn (step.run pins s3 σ H3
    (fun o H4 => o = some 2 ∧ H4 = H3) I3 ⟨2, rfl, rfl, rfl⟩) fun vs s4 ⟨o, H4, I4, ps, eo, e4⟩ => ?_
  subst eo
  subst e4
  have en : vl = .none := by cases pl; rfl
  have eu : vu = .none := by cases pu; rfl
  obtain ⟨tk, ek⟩ : ∃ tk, vs = .int 2 tk := by cases ps; exact ⟨_, rfl⟩
  subst en
  subst eu
  subst ek
  have I5 : L2.Inv X pins σ H4 { s4 with heap := s4.heap.push { cls := .type "slice", data := .fields #[.none, .none, .int 2 tk] } } :=
    I4.kept (t' := s4.toks) fun b ob q => Heap.get?_push_of_some _ q
  obtain ⟨T, id, hT, ht, hg⟩ := hr pins _ σ H4 x v s4.heap.objs.size tk Q I5 r1 (Heap.IsSliceOf.new ..) q1
  exact tail_any (ops := [v, .ref s4.heap.objs.size]) ht hT hg (by with_unfolding_all rfl)
theorem at_bk {e : Expr} {te : TE} {n n0 : Nat} {p0 p1 p2 p3 : Pos} {r : V → Hp → VK → Prop} (he : PE X e te)
    (hr : ∀ (pins : List (Addr × Obj)) (s : Shared) (σ : L2.St) (H : Hp) (v : V) (u : Value) (sl : Addr) (t0 tk : Tok) (Q : VK), L2.Inv X pins σ H s → RelV v u → s.heap.IsSliceOf sl .none (.int 0 t0) (.int (-1) tk) → r v H Q →
      ∃ T id, typeLookup (.type T) "__getitem__" = pure (some (.builtin id)) ∧ s.TypeIs u T ∧ wpAny (model X.prog X.w) X.A (getItem u (.ref sl)) (EP X pins σ Q) X.xe s) :
    PE X (.Subscript e (.Slice none (some (.Constant (.int 0) n0 p0)) (some (.UnaryOp .USub (.Constant (.int 1) n p1) p2)) p3) pos) (fun σ H Q => te σ H fun v H1 => r v H1 Q) := by
  refine ⟨fun pins s σ H Q I h => ?_⟩
  refine Subscript_ (thn (he.run pins s σ H _ I h)
    fun v s1 ⟨x, H1, I1, r1, q1⟩ => ?_)
  have high : PO X (some (.Constant (.int 0) n0 p0)) (tPart (tC (.int 0))) :=
    po_some pe_int
  have step : PO X (some (.UnaryOp .USub (.Constant (.int 1) n p1) p2)) (tPart (tUn (rU fun i => .int (-i)) (tC (.int 1)))) :=
    po_some (pe_un un_neg pe_int)
  refine wpAny_Slice (thn (po_none.run pins s1 σ H1
    (fun o H2 => o = none ∧ H2 = H1) I1 ⟨rfl, rfl⟩) fun vl s2 ⟨l, H2, I2, pl, el, e2⟩ => ?_)
  subst el
  subst e2
  refine thn (high.run pins s2 σ H2
    (fun o H3 => o = some 0 ∧ H3 = H2) I2 ⟨0, rfl, rfl, rfl⟩) fun vu s3 ⟨u, H3, I3, pu, eu, e3⟩ => ?_
  subst eu
  subst e3
  refine thn (step.run pins s3 σ H3
    (fun o H4 => o = some (-1) ∧ H4 = H3) I3 ⟨1, rfl, -1, rfl, rfl, rfl⟩) fun vs s4 ⟨o, H4, I4, ps, eo, e4⟩ => ?_
  subst eo
  subst e4
  have en : vl = .none := by cases pl; rfl
  obtain ⟨t0, eu⟩ : ∃ t0, vu = .int 0 t0 := by cases pu; exact ⟨_, rfl⟩
  obtain ⟨tk, ek⟩ : ∃ tk, vs = .int (-1) tk := by cases ps; exact ⟨_, rfl⟩
  subst en
  subst eu
  subst ek
  have I5 : L2.Inv X pins σ H4 { s4 with heap := s4.heap.push { cls := .type "slice", data := .fields #[.none, .int 0 t0, .int (-1) tk] } } :=
    I4.kept (t' := s4.toks) fun b ob q => Heap.get?_push_of_some _ q
  obtain ⟨T, id, hT, ht, hg⟩ := hr pins _ σ H4 x v s4.heap.objs.size t0 tk Q I5 r1 (Heap.IsSliceOf.new ..) q1
  exact tail_any (ops := [v, .ref s4.heap.objs.size]) ht hT hg (by with_unfolding_all rfl)
theorem RpL.evs {K : Frg} {H : Hp} {A : List Addr} : ∀ {vs : List V} {ds : List D}, RpL K H A vs ds → RpL K H A (DL.evs vs) (DL.evs ds)
  | _, _, .nil => .nil
  | _, _, .cons h .nil => .cons h .nil
  | _, _, .cons h (.cons _ r) => .cons h (RpL.evs r)
theorem valsEvs : ∀ {vs : List V} {us : List Value}, Vals vs us → Vals (DL.evs vs) (DL.evs us)
  | _, _, .nil => .nil
  | _, _, .cons h .nil => .cons h .nil
  | _, _, .cons h (.cons _ r) => .cons h (valsEvs r)
theorem RpL.tl {K : Frg} {H : Hp} {A : List Addr} : ∀ {vs : List V} {ds : List D}, RpL K H A vs ds → RpL K H A vs.tail ds.tail
  | _, _, .nil => .nil
  | _, _, .cons _ r => r
theorem valsTl : ∀ {vs : List V} {us : List Value}, Vals vs us → Vals vs.tail us.tail
  | _, _, .nil => .nil
  | _, _, .cons _ r => r
def rSl2 (K : Frg) : V → Hp → VK → Prop := fun v H κ => ∃ A M d Q, Rp K H A v d ∧ Rm K H A M ∧ sl2D d M Q ∧ Lf K H A Q κ
def rBk1 (K : Frg) : V → Hp → VK → Prop := fun v H κ => ∃ A M d Q, Rp K H A v d ∧ Rm K H A M ∧ bk1D d M Q ∧ Lf K H A Q κ
theorem s_sl2 {n : Nat} {p1 p3 : Pos} (ha : PE X x (rdE G X.K a)) : PE X (.Subscript x (.Slice none none (some (.Constant (.int 2) n p1)) p3) pos) (rdE G X.K (.sl2 a)) := by
  refine (at_two (r := rSl2 X.K) ha ?_).weak fun σ H κ ⟨A, ρ, M, Q, hs, hm, hw, hl⟩ => ⟨A, ρ, M, _, hs, hm, hw, fun d1 M1 v1 H1 A1 q1 s1 m1 r1 => ⟨A1, M1, d1, _, r1, m1, q1, hl.stp s1⟩⟩
  intro pins s σ H v u sl tk κ I r hsl ⟨A, M, d, Q, hx, hm, hb, hl⟩
  cases hx <;> first | exact False.elim hb | skip
  rename_i t vs ds ht la
  cases r
  obtain ⟨its, rv, hit, hz⟩ := I.tuple ht.sq
  have hlen := evs_len its
  have hb' : Q (.tup (DL.evs ds)) M := by rw [← ev2_evs]; exact hb
  refine ⟨"tuple", _, PyProof.Rows.slot_tuple_getitem.lookup, hit.typeIs, tup_cut hit hsl (fun A' R' h => cut_two hsl h) (fun z => by
    rw [Bool.and_eq_true, Bool.and_eq_true] at z
    exact absurd z.1.2 (by decide)) (pick_two _) ?_ (by have := rv.length; simp only [List.toList_toArray] at *; omega)⟩
  have hf := I.hok.fresh (Nat.le_refl s.heap.objs.size)
  have hlv := evs_len vs
  refine ⟨.ref s.heap.objs.size, upd H s.heap.objs.size (.tup (DL.evs vs)), I.laid (t' := s.toks) (fun b ob q => Heap.get?_push_of_some _ q) (Nat.le_refl _) ⟨by omega, _, valsEvs rv, IsTup.new _ _⟩, rfl, hl.newT hm la.evs hb' _ hf⟩
theorem s_bk1 {n n0 : Nat} {p0 p1 p2 p3 : Pos} (ha : PE X x (rdE G X.K a)) : PE X (.Subscript x (.Slice none (some (.Constant (.int 0) n0 p0)) (some (.UnaryOp .USub (.Constant (.int 1) n p1) p2)) p3) pos) (rdE G X.K (.bk1 a)) := by
  refine (at_bk (r := rBk1 X.K) ha ?_).weak fun σ H κ ⟨A, ρ, M, Q, hs, hm, hw, hl⟩ => ⟨A, ρ, M, _, hs, hm, hw, fun d1 M1 v1 H1 A1 q1 s1 m1 r1 => ⟨A1, M1, d1, _, r1, m1, q1, hl.stp s1⟩⟩
  intro pins s σ H v u sl t0 tk κ I r hsl ⟨A, M, d, Q, hx, hm, hb, hl⟩
  cases hx <;> first | exact False.elim hb | skip
  rename_i t vs ds ht la
  cases r
  obtain ⟨its, rv, hit, hz⟩ := I.tuple ht.sq
  have hb' : Q (.tup ds.tail.reverse) M := hb
  refine ⟨"tuple", _, PyProof.Rows.slot_tuple_getitem.lookup, hit.typeIs, tup_cut hit hsl (fun A' R' h => cut_bk hsl h) (fun z => by
    rw [Bool.and_eq_true, Bool.and_eq_true] at z
    exact absurd z.1.2 (by decide)) (pick_bk _) ?_ (by have := rv.length; simp only [List.toList_toArray, List.length_reverse, List.length_tail] at *; omega)⟩
  have hf := I.hok.fresh (Nat.le_refl s.heap.objs.size)
  refine ⟨.ref s.heap.objs.size, upd H s.heap.objs.size (.tup vs.tail.reverse), I.laid (t' := s.toks) (fun b ob q => Heap.get?_push_of_some _ q) (Nat.le_refl _) ⟨by rw [List.length_reverse, List.length_tail]; omega, _, (valsTl rv).reverse, IsTup.new _ _⟩, rfl, hl.newT hm la.tl.reverse hb' _ hf⟩
end
end DL

set_option Elab.async false
set_option linter.all false
set_option maxRecDepth 100000
set_option maxHeartbeats 4000000
namespace DL
open PySem L2 PySem.Spec PyProof.Rows
section
variable {X : Cx} {G : Gam} {fs : List String} {k : Nat} {pos p q : Pos} {x y z : Expr} {a b c : IE} {es : List Expr} {xs : IE}

/-! methods of lists -/
theorem MtR.imp {id : String} {r r' : V → List V → Hp → VK → Prop} (h : MtR X id r) (hi : ∀ x xs H Q, r' x xs H Q → r x xs H Q) : MtR X id r' := fun pins s σ H x xs v us Q I rx rs q => h pins s σ H x xs v us Q I rx rs (hi _ _ _ _ q)
/-- the receiver is a list as long as the arguments are reckoned -/
theorem tyV_list {K : Frg} {H : Hp} {A : List Addr} {M : Mem} (m : Rm K H A M) {v : V} {n : Nat} (r : Rp K H A v (.lst n)) : tyV K "list" v H := by
  cases r with
  | lst ha hka =>
    obtain ⟨vs, e⟩ := hka
    exact .inl ⟨rfl, vs, SqL.of e⟩
theorem s_mth_of {m : MF} {id : String} {nm : Str} (slot : Slot "list" nm id) (hty : typeOf (.builtin id) = pure (.type "method_descriptor")) (hm : MtR X id (rM X.K (mfD m)))
    (hb : baseB x = true) (hl : (p.endLine == pos.line) = true) (hes : es.length ≤ 2) (hxs : chkA X.N fs xs X.env.scope es = true) (ho : PE X x (rdE G X.K a)) (ha : PA X es (rdA G X.K xs)) :
    PE X (.Call (.Attribute x nm p) es [] pos) (rdE G X.K (.mth m a xs)) := by
  have fin : ∀ {es : List Expr}, PE X (.Call (.Attribute x nm p) es [] pos) (tBM X.K "list" (rM X.K (mfD m)) (rdE G X.K a) (rdA G X.K xs)) → PE X (.Call (.Attribute x nm p) es [] pos) (rdE G X.K (.mth m a xs)) := fun h =>
    h.weak fun σ H κ ⟨A, ρ, M, Q, hs, hmm, hw, hl⟩ => ⟨A, ρ, M, _, hs, hmm, hw, fun d1 M1 v1 H1 A1 ⟨⟨n, e⟩, q1⟩ s1 m1 r1 => by
      subst e
      exact ⟨tyV_list m1 r1, A1, ρ, M1, _, hs.stp hmm s1, m1, q1, fun ds M2 vs H2 A2 q2 s2 m2 r2 => ⟨A2, M2, _, ds, _, r1.stp m1 s2, r2, m2, q2, (hl.stp s1).stp s2⟩⟩⟩
  match es, hes, hxs, ha with
  | [], _, hxs, ha =>
    cases chkA_nil hxs
    refine (pe_bm0 PySem.F.plainAttrs_list slot hty hm ho (base_of hb) hl).weak fun σ H κ ⟨A, ρ, M, Q, hs, hmm, hw, hl⟩ => ⟨A, ρ, M, _, hs, hmm, hw, fun d1 M1 v1 H1 A1 ⟨⟨n, e⟩, q1⟩ s1 m1 r1 => ?_⟩
    subst e
    exact ⟨tyV_list m1 r1, A1, M1, _, [], _, r1, .nil, m1, q1, hl.stp s1⟩
  | [e], _, hxs, ha =>
    have h1 := star_of (es := []) (env := X.env) (chkA_star hxs)
    exact fin (pe_bm PySem.F.plainAttrs_list slot hty hm ho ha (base_of hb) (by rw [h1]; rfl) hl h1 rfl)
  | [e, e'], _, hxs, ha =>
    obtain ⟨a', r', rfl, h2⟩ := chkA_tail hxs
    have h1 := star_of (es := [e']) (env := X.env) (chkA_star hxs)
    have h3 := star_of (es := []) (env := X.env) (chkA_star h2)
    exact fin (pe_bm PySem.F.plainAttrs_list slot hty hm ho ha (base_of hb) (by rw [h1, h3]; rfl) hl h1 (by rw [h3]; rfl))

/-- d.setdefault(k, v) -/
theorem s_dsd (hu : X.A.units + 1 < cLine) (hb : baseB x = true) (hl : (p.endLine == pos.line) = true) (hes : es.length = 2) (hxs : chkA X.N fs xs X.env.scope es = true) (ho : PE X x (rdE G X.K a)) (ha : PA X es (rdA G X.K xs)) :
    PE X (.Call (.Attribute x (Str.ofString "setdefault") p) es [] pos) (rdE G X.K (.dsd a xs)) := by
  match es, hes, hxs, ha with
  | [e, e'], _, hxs, ha =>
    obtain ⟨a', r', rfl, h2⟩ := chkA_tail hxs
    have h1 := star_of (es := [e']) (env := X.env) (chkA_star hxs)
    have h3 := star_of (es := []) (env := X.env) (chkA_star h2)
    refine (pe_bm PySem.F.plainAttrs_dict PySem.F.slot_dict_setdefault PySem.F.type_dict_setdefault (mf_setd hu) ho ha (base_of hb) (by rw [h1, h3]; rfl) hl h1 (by rw [h3]; rfl)).weak fun σ H κ ⟨A, ρ, M, Q, hs, hmm, hw, hl⟩ => ⟨A, ρ, M, _, hs, hmm, hw, fun d1 M1 v1 H1 A1 ⟨⟨n, ls, e, eM⟩, q1⟩ s1 m1 r1 => ?_⟩
    subst e
    refine ⟨?_, A1, ρ, M1, _, hs.stp hmm s1, m1, q1, fun ds M2 vs H2 A2 q2 s2 m2 r2 => ⟨A2, M2, _, ds, _, r1.stp m1 s2, r2, m2, q2, (hl.stp s1).stp s2⟩⟩
    cases r1 with
    | dct ha _ =>
      obtain ⟨kvs, hk, _⟩ := m1.dict ha eM
      exact .inr (.inr (.inl ⟨rfl, .inr ⟨kvs, hk⟩⟩))

/-! what a loop walks -/
def iAny (K : Frg) (tl : TE) : TI := fun σ H R => tl σ H fun v H1 => ∃ l, v = .ref l ∧ (((∃ vs, SqL K H1 l vs) ∧ R (Itl K l) H1) ∨ ((∃ vs, SqT K H1 l vs) ∧ R (Itt K l) H1))
theorem pi_any {tg e : Expr} {te : TE} (he : PE X e te) : PI X tg e (iAny X.K te) := by
  refine ⟨fun pins s σ H R I h => thn (he.run pins s σ H _ I h) fun u s1 ⟨v, H1, I1, r1, l, ev, q⟩ => ?_⟩
  subst ev
  cases r1
  have fp : ∀ b ∈ [s1.heap.objs.size], FpOk X pins H1 b := fun b hb => by
    rw [List.mem_singleton.mp hb]
    exact I1.fpOk (Nat.le_refl _) (I1.hok.fresh (Nat.le_refl _))
  rcases q with ⟨⟨vs, hq⟩, q⟩ | ⟨⟨vs, hq⟩, q⟩
  · obtain ⟨its, _, pl, _⟩ := I1.list hq
    exact wpAny_pyIter_list pl.isList ⟨_, [s1.heap.objs.size], _, _, H1, rfl,
      I1.kept (t' := s1.toks) fun _ _ e => Heap.get?_push_of_some _ e, turn_list l _, ⟨_, Heap.get?_push_size _ rfl, rfl, rfl⟩, fp, q⟩
  · obtain ⟨its, _, pl, _⟩ := I1.tuple hq
    exact wpAny_pyIter_tuple (show s1.heap.IsTuple l its.toArray from pl) ⟨_, [s1.heap.objs.size], _, _, H1, rfl,
      I1.kept (t' := s1.toks) fun _ _ e => Heap.get?_push_of_some _ e, turn_tuple l _, ⟨_, Heap.get?_push_size _ rfl, rfl, rfl⟩, fp, q⟩
/-- a list's cell -/
structure LA (H : Hp) (A : List Addr) (n : Nat) (a : Addr) : Prop where
  at_ : A[n]? = some a
  li : ∃ us, H a = some (.lst us)
theorem LA.stp {H H1 : Hp} {A A1 : List Addr} {n : Nat} {a : Addr} (h : LA H A n a) (s : Stp H A H1 A1) : LA H1 A1 n a :=
  ⟨s.get h.at_, let ⟨us, hu⟩ := h.li; (s.kind a (List.mem_of_getElem? h.at_)).1 us hu⟩
theorem LA.get {K : Frg} {H : Hp} {A : List Addr} {M : Mem} {n : Nat} {a : Addr} {ds : List D} (h : LA H A n a) (m : Rm K H A M) (e : M[n]? = some ds) : ∃ vs, H a = some (.lst vs) ∧ RpL K H A vs ds := m.list h.at_ h.li e
theorem itr_list {K : Frg} {H1 : Hp} {A1 : List Addr} {n : Nat} {l : Addr} (hl : LA H1 A1 n l) : ItR K H1 A1 (.val (.lst n)) (Itl K l) := by
  refine ⟨fun H A M xs i x st m e hx => ?_, fun H A M xs i st m e hx => ?_, fun H A M xs i x v H' st m e hx hy => ?_⟩
  · obtain ⟨vs, h1, l1⟩ := (hl.stp st).get m e
    obtain ⟨v, hv, _⟩ := l1.get hx
    exact ⟨vs, v, SqL.of h1, hv⟩
  · obtain ⟨vs, h1, l1⟩ := (hl.stp st).get m e
    exact ⟨vs, SqL.of h1, by rw [l1.length]; exact hx⟩
  · obtain ⟨vs, h1, l1⟩ := (hl.stp st).get m e
    obtain ⟨v', hv, r⟩ := l1.get hx
    obtain ⟨rfl, hy⟩ := hy
    have := hy vs (SqL.of h1)
    rw [hv] at this; cases this
    exact ⟨Stp.refl _ _, m, r⟩
theorem itr_tup {K : Frg} {H1 : Hp} {A1 : List Addr} {M1 : Mem} {vs : List V} {ds : List D} {l : Addr} (m1 : Rm K H1 A1 M1) (hl : SqT K H1 l vs) (la : RpL K H1 A1 vs ds) : ItR K H1 A1 (.val (.tup ds)) (Itt K l) := by
  refine ⟨fun H A M xs i x st m e hx => ?_, fun H A M xs i st m e hx => ?_, fun H A M xs i x v H' st m e hx hy => ?_⟩
  · cases e
    obtain ⟨v, hv, _⟩ := la.get hx
    exact ⟨vs, v, sqT_stp m1 st hl, hv⟩
  · cases e
    exact ⟨vs, sqT_stp m1 st hl, by rw [la.length]; exact hx⟩
  · cases e
    obtain ⟨v', hv, r⟩ := la.get hx
    obtain ⟨rfl, hy⟩ := hy
    have := hy vs (sqT_stp m1 st hl)
    rw [hv] at this; cases this
    exact ⟨Stp.refl _ _, m, r.stp m1 st⟩
theorem itr_scr {K : Frg} {H1 : Hp} {A1 : List Addr} {M1 : Mem} {ns : List Int} {l : Addr} (m1 : Rm K H1 A1 M1) (hl : SqF K H1 l (ns.map V.int)) : ItR K H1 A1 (.val (.scr ns)) (Itl K l) := by
  refine ⟨fun H A M xs i x st m e hx => ?_, fun H A M xs i st m e hx => ?_, fun H A M xs i x v H' st m e hx hy => ?_⟩
  · cases e
    obtain ⟨v, hv, _⟩ := (RpL.ints (K := K) (H := H) (A := A) ns).get hx
    exact ⟨_, v, (sqF_stp m1 st hl).seq, hv⟩
  · cases e
    exact ⟨_, (sqF_stp m1 st hl).seq, by simpa using hx⟩
  · cases e
    obtain ⟨v', hv, r⟩ := (RpL.ints (K := K) (H := H) (A := A) ns).get hx
    obtain ⟨rfl, hy⟩ := hy
    have := hy _ (sqF_stp m1 st hl).seq
    rw [hv] at this; cases this
    exact ⟨Stp.refl _ _, m, r⟩
theorem rngD_get : ∀ (n : Nat) (lo : Int) (i : Nat), (rngD lo n)[i]? = if i < n then some (.int (lo + i)) else none
  | 0, lo, i => by simp [rngD]
  | n + 1, lo, 0 => by simp [rngD]
  | n + 1, lo, i + 1 => by
    show (rngD (lo + 1) n)[i]? = _
    rw [rngD_get n (lo + 1) i]
    by_cases h : i < n
    · rw [if_pos h, if_pos (by omega)]
      have : lo + 1 + (i : Int) = lo + ((i + 1 : Nat) : Int) := by omega
      rw [this]
    · rw [if_neg h, if_neg (by omega)]
theorem rngD_len : ∀ (n : Nat) (lo : Int), (rngD lo n).length = n
  | 0, _ => rfl
  | n + 1, lo => congrArg (· + 1) (rngD_len n (lo + 1))
theorem itr_rng {K : Frg} {H1 : Hp} {A1 : List Addr} {lo : Int} {n : Nat} : ItR K H1 A1 (.rng lo n) (Itr lo n) := by
  refine ⟨fun H A M xs i x st m e hx => ?_, fun H A M xs i st m e hx => ?_, fun H A M xs i x v H' st m e hx hy => ?_⟩
  · cases e
    rw [rngD_get] at hx
    by_cases h : i < n
    · exact h
    · rw [if_neg h] at hx; cases hx
  · cases e
    rw [rngD_len] at hx
    exact hx
  · cases e
    rw [rngD_get] at hx
    by_cases h : i < n
    · rw [if_pos h] at hx; cases hx
      obtain ⟨rfl, rfl⟩ := hy
      exact ⟨Stp.refl _ _, m, .int _⟩
    · rw [if_neg h] at hx; cases hx
theorem enumD_get : ∀ (xs : List D) (k : Int) (i : Nat), (enumD k xs)[i]? = xs[i]?.map fun x => pr (.int (k + i)) x
  | [], k, i => by simp [enumD]
  | x :: r, k, 0 => by simp [enumD]
  | x :: r, k, i + 1 => by
    show (enumD (k + 1) r)[i]? = _
    rw [enumD_get r (k + 1) i]
    have : k + 1 + (i : Int) = k + ((i + 1 : Nat) : Int) := by omega
    rw [this]; rfl
theorem enumD_len : ∀ (xs : List D) (k : Int), (enumD k xs).length = xs.length
  | [], _ => rfl
  | _ :: r, k => congrArg (· + 1) (enumD_len r (k + 1))
theorem pair_yld {K : Frg} {H : Hp} {A : List Addr} {M : Mem} (m : Rm K H A M) {T : Addr} (hT : H T = none) {x y : V} {dx dy : D} (rx : Rp K H A x dx) (ry : Rp K H A y dy) :
    Stp H A (upd H T (.tup [x, y])) A ∧ Rm K (upd H T (.tup [x, y])) A M ∧ Rp K (upd H T (.tup [x, y])) A (.ref T) (pr dx dy) :=
  ⟨stp_upd m hT, rm_upd m hT, .tup (.inl upd_same) (.cons (rx.stp m (stp_upd m hT)) (.cons (ry.stp m (stp_upd m hT)) .nil))⟩
theorem items_enumE {M : Mem} {a : D} : items M (.enum a) = match seqOf M a with | some xs => some (enumD 0 xs) | none => none := rfl
theorem items_zipE {M : Mem} {a b : D} : items M (.zip a b) = match seqOf M a, seqOf M b with | some xs, some ys => some (List.zipWith pr xs ys) | _, _ => none := rfl
theorem items_enum {M : Mem} {a : D} {xs : List D} (e : items M (.enum a) = some xs) : ∃ ys, seqOf M a = some ys ∧ xs = enumD 0 ys := by
  rw [items_enumE] at e
  cases h : seqOf M a with
  | none => rw [h] at e; cases e
  | some ys => rw [h] at e; cases e; exact ⟨ys, rfl, rfl⟩
theorem enum_at {ys : List D} {i : Nat} {x : D} (hx : (enumD 0 ys)[i]? = some x) : ∃ y, ys[i]? = some y ∧ x = pr (.int (i : Nat)) y := by
  rw [enumD_get] at hx
  cases h : ys[i]? with
  | none => rw [h] at hx; cases hx
  | some y =>
    rw [h] at hx
    simp at hx
    exact ⟨y, rfl, hx.symm⟩
/-- a source that is a list, or the script -/
theorem itr_enumL {K : Frg} {H1 : Hp} {A1 : List Addr} {d : D} {l : Addr} (hl : ∀ H A M xs, Stp H1 A1 H A → Rm K H A M → seqOf M d = some xs → ∃ vs, SqL K H l vs ∧ RpL K H A vs xs) : ItR K H1 A1 (.enum d) (Ite K l) := by
  refine ⟨fun H A M xs i x st m e hx => ?_, fun H A M xs i st m e hx => ?_, fun H A M xs i x v H' st m e hx hy => ?_⟩
  · obtain ⟨ys, e', rfl⟩ := items_enum e
    obtain ⟨y, hy, _⟩ := enum_at hx
    obtain ⟨vs, h1, l1⟩ := hl H A M ys st m e'
    obtain ⟨v, hv, _⟩ := l1.get hy
    exact ⟨vs, v, h1, hv⟩
  · obtain ⟨ys, e', rfl⟩ := items_enum e
    obtain ⟨vs, h1, l1⟩ := hl H A M ys st m e'
    rw [enumD_len] at hx
    exact ⟨vs, h1, by rw [l1.length]; exact hx⟩
  · obtain ⟨ys, e', rfl⟩ := items_enum e
    obtain ⟨y, hy', rfl⟩ := enum_at hx
    obtain ⟨vs, h1, l1⟩ := hl H A M ys st m e'
    obtain ⟨T, u, rfl, hT, rfl, hu⟩ := hy
    obtain ⟨v', hv, r⟩ := l1.get hy'
    have := hu vs h1
    rw [hv] at this; cases this
    exact pair_yld m hT (.int _) r
theorem itr_enumT {K : Frg} {H1 : Hp} {A1 : List Addr} {M1 : Mem} {vs : List V} {ds : List D} {l : Addr} (m1 : Rm K H1 A1 M1) (hl : SqT K H1 l vs) (la : RpL K H1 A1 vs ds) : ItR K H1 A1 (.enum (.tup ds)) (IteT K l) := by
  refine ⟨fun H A M xs i x st m e hx => ?_, fun H A M xs i st m e hx => ?_, fun H A M xs i x v H' st m e hx hy => ?_⟩
  · cases e
    obtain ⟨y, hy, _⟩ := enum_at hx
    obtain ⟨v, hv, _⟩ := la.get hy
    exact ⟨vs, v, sqT_stp m1 st hl, hv⟩
  · cases e
    rw [enumD_len] at hx
    exact ⟨vs, sqT_stp m1 st hl, by rw [la.length]; exact hx⟩
  · cases e
    obtain ⟨y, hy', rfl⟩ := enum_at hx
    obtain ⟨T, u, rfl, hT, rfl, hu⟩ := hy
    obtain ⟨v', hv, r⟩ := la.get hy'
    have := hu vs (sqT_stp m1 st hl)
    rw [hv] at this; cases this
    exact pair_yld m hT (.int _) (r.stp m1 st)
theorem i_enum {es' : List Expr} {n : Nat} {q' : Pos} (g : Good G fs k X) (h1 : glB X.env.scope (Str.ofString "enumerate") = true) (hx : noStar x = true) (ha : PE X x (rdE G X.K a)) : PI X (.Tuple es' n q') (.Call (.Name (Str.ofString "enumerate") p) [x] [] pos) (rdI G X.K (.enum a)) := by
  refine (pi_enumA (glB_ok h1) (g.bi _ (by decide)) (pa_cons ha pa_nil (star_of hx)) (star_of hx)).weak fun σ H R ⟨A, ρ, M, Q, hs, hm, hw, hl⟩ => ⟨A, ρ, M, _, hs, hm, hw, fun d M1 v H1 A1 ⟨q1, xs, e⟩ s1 m1 r1 => ?_⟩
  have it : ∃ ys, items M1 (.enum d) = some ys := ⟨enumD 0 xs, by rw [items_enumE, e]⟩
  cases r1 with
  | lst ha hka =>
    have ha : LA _ _ _ _ := ⟨ha, hka⟩
    obtain ⟨vs, e1⟩ := hka
    exact ⟨_, vs, rfl, .inl ⟨SqL.of e1, hl _ M1 H1 A1 _ q1 s1 m1 (itr_enumL fun H A M xs st m e => let ⟨ws, h1, l1⟩ := (ha.stp st).get m e; ⟨ws, SqL.of h1, l1⟩) it⟩⟩
  | tup ha la => exact ⟨_, _, rfl, .inr ⟨ha.sq, hl _ M1 H1 A1 _ q1 s1 m1 (itr_enumT m1 ha.sq la) it⟩⟩
  | scr ha => exact ⟨_, _, rfl, .inl ⟨ha.seq, hl _ M1 H1 A1 _ q1 s1 m1 (itr_enumL fun H A M xs st m e => by cases e; exact ⟨_, (sqF_stp m1 st ha).seq, RpL.ints _⟩) it⟩⟩
  | _ => cases e
theorem zip_at {as bs : List D} {i : Nat} {x : D} (hx : (List.zipWith pr as bs)[i]? = some x) : ∃ a b, as[i]? = some a ∧ bs[i]? = some b ∧ x = pr a b := by
  rw [List.getElem?_zipWith] at hx
  cases h : as[i]? with
  | none => rw [h] at hx; cases hx
  | some a =>
    cases h' : bs[i]? with
    | none => rw [h, h'] at hx; cases hx
    | some b => rw [h, h'] at hx; cases hx; exact ⟨a, b, rfl, rfl, rfl⟩
theorem items_zip {M : Mem} {a b : D} {xs : List D} (e : items M (.zip a b) = some xs) : ∃ as bs, seqOf M a = some as ∧ seqOf M b = some bs ∧ xs = List.zipWith pr as bs := by
  rw [items_zipE] at e
  cases h : seqOf M a with
  | none => rw [h] at e; cases e
  | some as =>
    cases h' : seqOf M b with
    | none => rw [h, h'] at e; cases e
    | some bs => rw [h, h'] at e; cases e; exact ⟨as, bs, rfl, rfl, rfl⟩
theorem itr_zipL {K : Frg} {H1 : Hp} {A1 : List Addr} {j n : Nat} {l r : Addr} (hl : LA H1 A1 j l) (hr : LA H1 A1 n r) : ItR K H1 A1 (.zip (.lst j) (.lst n)) (Itz K l r) := by
  refine ⟨fun H A M xs i x st m e hx => ?_, fun H A M xs i st m e hx => ?_, fun H A M xs i x v H' st m e hx hy => ?_⟩
  · obtain ⟨as, bs, e1, e2, rfl⟩ := items_zip e
    obtain ⟨a, b, ha, hb, _⟩ := zip_at hx
    obtain ⟨vs, h1, l1⟩ := (hl.stp st).get m e1
    obtain ⟨ws, h2, l2⟩ := (hr.stp st).get m e2
    obtain ⟨v, hv, _⟩ := l1.get ha
    obtain ⟨w, hw, _⟩ := l2.get hb
    exact ⟨vs, ws, v, w, SqL.of h1, SqL.of h2, hv, hw⟩
  · obtain ⟨as, bs, e1, e2, rfl⟩ := items_zip e
    obtain ⟨vs, h1, l1⟩ := (hl.stp st).get m e1
    obtain ⟨ws, h2, l2⟩ := (hr.stp st).get m e2
    rw [List.length_zipWith] at hx
    exact ⟨vs, ws, SqL.of h1, SqL.of h2, by rw [l1.length, l2.length]; omega⟩
  · obtain ⟨as, bs, e1, e2, rfl⟩ := items_zip e
    obtain ⟨a, b, ha, hb, rfl⟩ := zip_at hx
    obtain ⟨vs, h1, l1⟩ := (hl.stp st).get m e1
    obtain ⟨ws, h2, l2⟩ := (hr.stp st).get m e2
    obtain ⟨T, u, u2, rfl, hT, rfl, hu, hu2⟩ := hy
    obtain ⟨v, hv, rv⟩ := l1.get ha
    obtain ⟨w, hw, rw'⟩ := l2.get hb
    have t1 := hu vs (SqL.of h1)
    have t2 := hu2 ws (SqL.of h2)
    rw [hv] at t1; cases t1
    rw [hw] at t2; cases t2
    exact pair_yld m hT rv rw'
theorem itr_zipT {K : Frg} {H1 : Hp} {A1 : List Addr} {M1 : Mem} {vs ws : List V} {as bs : List D} {l r : Addr} (m1 : Rm K H1 A1 M1) (hl : SqT K H1 l vs) (la : RpL K H1 A1 vs as) (hr : SqT K H1 r ws) (lb : RpL K H1 A1 ws bs) : ItR K H1 A1 (.zip (.tup as) (.tup bs)) (RZ.ItzT K l r) := by
  refine ⟨fun H A M xs i x st m e hx => ?_, fun H A M xs i st m e hx => ?_, fun H A M xs i x v H' st m e hx hy => ?_⟩
  · cases e
    obtain ⟨a, b, ha, hb, _⟩ := zip_at hx
    obtain ⟨v, hv, _⟩ := la.get ha
    obtain ⟨w, hw, _⟩ := lb.get hb
    exact ⟨vs, ws, v, w, sqT_stp m1 st hl, sqT_stp m1 st hr, hv, hw⟩
  · cases e
    rw [List.length_zipWith] at hx
    exact ⟨vs, ws, sqT_stp m1 st hl, sqT_stp m1 st hr, by rw [la.length, lb.length]; omega⟩
  · cases e
    obtain ⟨a, b, ha, hb, rfl⟩ := zip_at hx
    obtain ⟨T, u, u2, rfl, hT, rfl, hu, hu2⟩ := hy
    obtain ⟨v, hv, rv⟩ := la.get ha
    obtain ⟨w, hw, rw'⟩ := lb.get hb
    have t1 := hu vs (sqT_stp m1 st hl)
    have t2 := hu2 ws (sqT_stp m1 st hr)
    rw [hv] at t1; cases t1
    rw [hw] at t2; cases t2
    exact pair_yld m hT (rv.stp m1 st) (rw'.stp m1 st)
theorem itr_zipM {K : Frg} {H1 : Hp} {A1 : List Addr} {M1 : Mem} {vs : List V} {as : List D} {l r : Addr} {n : Nat} (m1 : Rm K H1 A1 M1) (hl : SqT K H1 l vs) (la : RpL K H1 A1 vs as) (hr : LA H1 A1 n r) : ItR K H1 A1 (.zip (.tup as) (.lst n)) (DZ.ItzM K l r) := by
  refine ⟨fun H A M xs i x st m e hx => ?_, fun H A M xs i st m e hx => ?_, fun H A M xs i x v H' st m e hx hy => ?_⟩
  · obtain ⟨as', bs, e1, e2, rfl⟩ := items_zip e
    cases e1
    obtain ⟨a, b, ha, hb, _⟩ := zip_at hx
    obtain ⟨ws, h2, l2⟩ := (hr.stp st).get m e2
    obtain ⟨v, hv, _⟩ := la.get ha
    obtain ⟨w, hw, _⟩ := l2.get hb
    exact ⟨vs, ws, v, w, sqT_stp m1 st hl, SqL.of h2, hv, hw⟩
  · obtain ⟨as', bs, e1, e2, rfl⟩ := items_zip e
    cases e1
    obtain ⟨ws, h2, l2⟩ := (hr.stp st).get m e2
    rw [List.length_zipWith] at hx
    exact ⟨vs, ws, sqT_stp m1 st hl, SqL.of h2, by rw [la.length, l2.length]; omega⟩
  · obtain ⟨as', bs, e1, e2, rfl⟩ := items_zip e
    cases e1
    obtain ⟨a, b, ha, hb, rfl⟩ := zip_at hx
    obtain ⟨ws, h2, l2⟩ := (hr.stp st).get m e2
    obtain ⟨T, u, u2, rfl, hT, rfl, hu, hu2⟩ := hy
    obtain ⟨v, hv, rv⟩ := la.get ha
    obtain ⟨w, hw, rw'⟩ := l2.get hb
    have t1 := hu vs (sqT_stp m1 st hl)
    have t2 := hu2 ws (SqL.of h2)
    rw [hv] at t1; cases t1
    rw [hw] at t2; cases t2
    exact pair_yld m hT (rv.stp m1 st) rw'
theorem i_zip {es' : List Expr} {n : Nat} {q' : Pos} (g : Good G fs k X) (h1 : glB X.env.scope (Str.ofString "zip") = true) (hx : noStar x = true) (hy : noStar y = true) (ha : PE X x (rdE G X.K a)) (hb : PE X y (rdE G X.K b)) : PI X (.Tuple es' n q') (.Call (.Name (Str.ofString "zip") p) [x, y] [] pos) (rdI G X.K (.zip a b)) := by
  refine (DZ.pi_zipB (glB_ok h1) (g.bi _ (by decide)) (pa_cons ha (pa_cons hb pa_nil (star_of hy)) (star_of hx)) (star_of hx) (by rw [star_of hy]; rfl)).weak fun σ H R ⟨A, ρ, M, Q, hs, hm, hw, hl⟩ => ⟨A, ρ, M, _, hs, hm, hw, fun d M1 v H1 A1 q1 s1 m1 r1 =>
    ⟨A1, ρ, M1, _, hs.stp hm s1, m1, q1, fun d2 M2 v2 H2 A2 ⟨q2, hz⟩ s2 m2 r2 => ?_⟩⟩
  rcases hz with ⟨i, j, xs, ys, rfl, rfl, e1, e2⟩ | ⟨xs, ys, rfl, rfl⟩ | ⟨xs, j, ys, rfl, rfl, e2⟩
  · have it : ∃ zs, items M2 (.zip (.lst i) (.lst j)) = some zs := ⟨List.zipWith pr xs ys, by rw [items_zipE, show seqOf M2 (.lst i) = some xs from e1, show seqOf M2 (.lst j) = some ys from e2]⟩
    cases r1 with
    | lst h1 k1 =>
      cases r2 with
      | lst h2 k2 =>
        have h1 := LA.stp (LA.mk h1 k1) s2
        have h2 := LA.mk h2 k2
        obtain ⟨vs, g1, _⟩ := h1.get m2 e1
        obtain ⟨ws, g2, _⟩ := h2.get m2 e2
        exact ⟨_, _, vs, ws, rfl, .inl ⟨SqL.of g1, SqL.of g2, hl _ M2 H2 A2 _ q2 (s1.trans s2) m2 (itr_zipL h1 h2) it⟩⟩
  · cases r1 with
    | tup h1 l1 =>
      cases r2 with
      | tup h2 l2 => exact ⟨_, _, _, _, rfl, .inr (.inl ⟨sqT_stp m1 s2 h1.sq, h2.sq, hl _ M2 H2 A2 _ q2 (s1.trans s2) m2 (itr_zipT m2 (sqT_stp m1 s2 h1.sq) (l1.stp m1 s2) h2.sq l2) ⟨_, rfl⟩⟩)⟩
  · have it : ∃ zs, items M2 (.zip (.tup xs) (.lst j)) = some zs := ⟨List.zipWith pr xs ys, by rw [items_zipE, show seqOf M2 (.tup xs) = some xs from rfl, show seqOf M2 (.lst j) = some ys from e2]⟩
    cases r1 with
    | tup h1 l1 =>
      cases r2 with
      | lst h2 k2 =>
        have h2 := LA.mk h2 k2
        obtain ⟨ws, g2, _⟩ := h2.get m2 e2
        exact ⟨_, _, _, ws, rfl, .inr (.inr ⟨sqT_stp m1 s2 h1.sq, SqL.of g2, hl _ M2 H2 A2 _ q2 (s1.trans s2) m2 (itr_zipM m2 (sqT_stp m1 s2 h1.sq) (l1.stp m1 s2) h2) it⟩)⟩
theorem zip_rp {K : Frg} {H : Hp} {A : List Addr} : ∀ {as bs : List D} {vx vy : List V} {Ts : List Addr}, RpL K H A vx as → RpL K H A vy bs → Ts.length = min vx.length vy.length → (∀ (j : Nat) (T : Addr) (x y : V), Ts[j]? = some T → vx[j]? = some x → vy[j]? = some y → H T = some (.tup [x, y])) → RpL K H A (Ts.map V.ref) (List.zipWith pr as bs)
  | _, _, _, _, Ts, .nil, _, hl, _ => by
    have : Ts = [] := List.eq_nil_of_length_eq_zero (by simpa using hl)
    subst this
    exact .nil
  | _, _, _, _, Ts, .cons _ _, .nil, hl, _ => by
    have : Ts = [] := List.eq_nil_of_length_eq_zero (by simpa using hl)
    subst this
    exact .nil
  | _, _, _, _, [], .cons _ _, .cons _ _, hl, _ => by
    simp only [List.length_nil, List.length_cons] at hl
    omega
  | _, _, _, _, T :: Ts, .cons r l, .cons r' l', hl, ht => by
    refine .cons (.tup (.inl (ht 0 T _ _ rfl rfl rfl)) (.cons r (.cons r' .nil))) (zip_rp l l' ?_ fun j T' x y h1 h2 h3 => ht (j + 1) T' x y (by simpa using h1) (by simpa using h2) (by simpa using h3))
    simp only [List.length_cons] at hl
    omega
/-- max(x, default=0) -/
theorem s_mxd (g : Good G fs k X) (hq : cold fs = true) (h1 : glB X.env.scope (Str.ofString "max") = true) {j : Nat} {p1 p2 : Pos} (hx : noStar x = true) (ha : PE X x (rdE G X.K a)) :
    PE X (.Call (.Name (Str.ofString "max") p) [x] [⟨some (Str.ofString "default"), .Constant (.int 0) j p1, p2⟩] pos) (rdE G X.K (.mxd a)) := by
  refine (pe_callBK (id := "max") (DPt.cr_mxd (g.calm hq) g.un) (glB_ok h1) (g.bi _ (by decide)) (by decide +kernel) (pa_cons ha pa_nil (star_of hx)) (pk_cons pe_int pk_nil) (he := by rw [star_of hx]; rfl) (hpl := by rw [star_of hx]; rfl)).weak fun σ H κ ⟨A, ρ, M, Q, hs, hm, hw, hl⟩ => ⟨A, ρ, M, _, hs, hm, hw, fun d M1 v H1 A1 ⟨n, ns, e, eM, q0, q⟩ s1 m1 r1 => ?_⟩
  subst e
  cases r1 with
  | lst hla hk =>
    obtain ⟨vs, h2, l2⟩ := m1.list hla hk eM
    rw [RpL.of_ints l2] at h2
    exact ⟨_, ns, 0, rfl, rfl, SqL.of h2, fun e => (hl.stp s1).int m1 (q0 e), fun m hm' hmax => (hl.stp s1).int m1 (q m hm' hmax)⟩
theorem s_lzip (g : Good G fs k X) (hq : cold fs = true) (h1 : glB X.env.scope (Str.ofString "list") = true) (h2 : glB X.env.scope (Str.ofString "zip") = true) {q pos2 : Pos} (hx : noStar x = true) (hy : noStar y = true) (ha : PE X x (rdE G X.K a)) (hb : PE X y (rdE G X.K b)) :
    PE X (.Call (.Name (Str.ofString "list") p) [.Call (.Name (Str.ofString "zip") q) [x, y] [] pos2] [] pos) (rdE G X.K (.lzip a b)) := by
  refine (DZ.pe_listZip (g.calm hq) (glB_ok h1) (g.bi _ (by decide)) (glB_ok h2) (g.bi _ (by decide)) (pa_cons ha (pa_cons hb pa_nil (star_of hy)) (star_of hx)) (star_of hx) (by rw [star_of hy]; rfl)).weak fun σ H κ ⟨A, ρ, M, Q, hs, hm, hw, hl⟩ => ⟨A, ρ, M, _, hs, hm, hw, fun d M1 v H1 A1 q1 s1 m1 r1 =>
    ⟨A1, ρ, M1, _, hs.stp hm s1, m1, q1, fun d2 M2 v2 H2 A2 ⟨as, bs, e1, e2, few, q2⟩ s2 m2 r2 => ?_⟩⟩
  subst e1
  subst e2
  cases r1 with
  | tup ta la =>
    cases r2 with
    | tup tb lb =>
      have la := la.stp m1 s2
      refine ⟨_, _, _, _, rfl, sqT_stp m1 s2 ta.sq, tb.sq, by rw [la.length, lb.length]; exact few, fun c H' Ts hc ext len prs hp => ?_⟩
      have st : Stp H2 A2 H' (A2 ++ [c]) := ⟨⟨[c], rfl⟩, fun b o e n => ⟨ext b o e, fun z => by
        rcases List.mem_append.mp z with z | z
        · exact n z
        · rw [List.mem_singleton.mp z, hc] at e; cases e⟩, fun a _ => ⟨fun vs h => ⟨vs, ext _ _ h⟩, fun o h d => ⟨o, ext _ _ h, d⟩, fun u x h => ext _ _ h⟩⟩
      have m3 : Rm X.K H' (A2 ++ [c]) (M2 ++ [List.zipWith pr as bs]) := by
        refine ⟨by simp [m2.len], ?_, fun n es e => ?_⟩
        · rw [List.nodup_append]
          exact ⟨m2.nd, by simp, fun a ha b hb => fun z => m2.fresh hc (by rw [← List.mem_singleton.mp hb, ← z]; exact ha)⟩
        · by_cases hn : n < M2.length
          · rw [List.getElem?_append_left hn] at e
            obtain ⟨a, g1, g2⟩ := m2.at_ n es e
            obtain ⟨o, ho⟩ := g2.some
            exact ⟨a, st.get g1, g2.stp' m2 st ((ext _ _ ho).trans ho.symm)⟩
          · have jl := (List.getElem?_eq_some_iff.mp e).1
            rw [List.length_append, List.length_singleton] at jl
            have hn' : n = M2.length := by omega
            subst hn'
            simp at e
            subst e
            exact ⟨c, by rw [← m2.len]; simp, .lst hp (zip_rp (la.stp m2 st) (lb.stp m2 st) len prs)⟩
      exact (hl.stp (s1.trans s2)) _ _ _ _ _ q2 st m3 (.lst (by rw [← m2.len]; simp) ⟨_, hp⟩)
theorem i_val {tg : Expr} {r : IE} (ha : PE X x (rdE G X.K a)) : PI X tg x (rdI G X.K (.cons a r)) := by
  refine (pi_any ha).weak fun σ H R ⟨A, ρ, M, Q, hs, hm, hw, hl⟩ => ⟨A, ρ, M, _, hs, hm, hw, fun d1 M1 v1 H1 A1 ⟨q1, xs, e⟩ s1 m1 r1 => ?_⟩
  · cases r1 with
    | lst ha hka =>
      have ha := LA.mk ha hka
      obtain ⟨vs, e1⟩ := hka
      exact ⟨_, rfl, .inl ⟨⟨vs, SqL.of e1⟩, hl _ M1 H1 A1 _ q1 s1 m1 (itr_list ha) ⟨xs, e⟩⟩⟩
    | tup ha la => exact ⟨_, rfl, .inr ⟨⟨_, ha.sq⟩, hl _ M1 H1 A1 _ q1 s1 m1 (itr_tup m1 ha.sq la) ⟨xs, e⟩⟩⟩
    | scr ha => exact ⟨_, rfl, .inl ⟨⟨_, ha.seq⟩, hl _ M1 H1 A1 _ q1 s1 m1 (itr_scr m1 ha) ⟨xs, e⟩⟩⟩
    | _ => cases e
theorem i_rng1 {tg : Expr} (g : Good G fs k X) (h1 : glB X.env.scope (Str.ofString "range") = true) (hx : noStar x = true) (ha : PE X x (rdE G X.K a)) : PI X tg (.Call (.Name (Str.ofString "range") p) [x] [] pos) (rdI G X.K (.rng1 a)) := by
  refine (pi_range1 (glB_ok h1) (g.bi _ (by decide)) (pa_cons ha pa_nil (star_of hx)) (star_of hx)).weak fun σ H R ⟨A, ρ, M, Q, hs, hm, hw, hl⟩ => ⟨A, ρ, M, _, hs, hm, hw, fun d M1 v H1 A1 ⟨j, e, hb, q1⟩ s1 m1 r1 => ?_⟩
  subst e
  cases r1
  exact ⟨j, rfl, hb.1, hb.2, hl _ M1 H1 A1 _ q1 s1 m1 itr_rng ⟨_, rfl⟩⟩
theorem i_rng2 {tg : Expr} (g : Good G fs k X) (h1 : glB X.env.scope (Str.ofString "range") = true) (hx : noStar x = true) (hy : noStar y = true) (ha : PE X x (rdE G X.K a)) (hb : PE X y (rdE G X.K b)) : PI X tg (.Call (.Name (Str.ofString "range") p) [x, y] [] pos) (rdI G X.K (.rng2 a b)) := by
  refine (DR.pi_rangeL (glB_ok h1) (g.bi _ (by decide)) (pa_cons ha (pa_cons hb pa_nil (star_of hy)) (star_of hx)) (by rw [star_of hx, star_of hy]; rfl) (star_of hy)).weak fun σ H R ⟨A, ρ, M, Q, hs, hm, hw, hl⟩ => ⟨A, ρ, M, _, hs, hm, hw, fun d M1 v H1 A1 q1 s1 m1 r1 =>
    ⟨A1, ρ, M1, _, hs.stp hm s1, m1, q1, fun d2 M2 v2 H2 A2 ⟨i, j, e, e2, hb, q2⟩ s2 m2 r2 => ?_⟩⟩
  subst e
  subst e2
  cases r1
  cases r2
  exact ⟨i, j, rfl, hl _ M2 H2 A2 _ q2 (s1.trans s2) m2 itr_rng ⟨_, rfl⟩⟩
end
end DL

set_option Elab.async false
set_option linter.all false
set_option maxRecDepth 100000
set_option maxHeartbeats 4000000
namespace DL
open PySem L2 PySem.Spec PyProof.Rows
/-! slots -/
theorem setV_len : ∀ (ρ : En) (i : Nat) (d : D), (setV ρ i d).length = ρ.length
  | [], _, _ => rfl
  | _ :: r, 0, _ => rfl
  | _ :: r, i + 1, d => congrArg (· + 1) (setV_len r i d)
theorem wipeV_len : ∀ (ρ : En) (i : Nat), (wipeV ρ i).length = ρ.length
  | [], _ => rfl
  | _ :: r, 0 => rfl
  | _ :: r, i + 1 => congrArg (· + 1) (wipeV_len r i)
theorem getV_setV : ∀ (ρ : En) (i : Nat) (d : D) (j : Nat) (e : D), getV (setV ρ i d) j = some e → (j = i ∧ i < ρ.length ∧ e = d) ∨ (j ≠ i ∧ getV ρ j = some e)
  | [], _, _, _, _, h => by simp [setV, getV] at h
  | _ :: r, 0, d, 0, e, h => by simp [setV, getV] at h; exact .inl ⟨rfl, by simp, h.symm⟩
  | _ :: r, 0, d, j + 1, e, h => .inr ⟨by omega, h⟩
  | x :: r, i + 1, d, 0, e, h => .inr ⟨by omega, h⟩
  | x :: r, i + 1, d, j + 1, e, h => by
    rcases getV_setV r i d j e h with ⟨h1, h2, h3⟩ | ⟨h1, h2⟩
    · exact .inl ⟨by omega, by simp; omega, h3⟩
    · exact .inr ⟨by omega, h2⟩
theorem getV_wipeV : ∀ (ρ : En) (i : Nat) (j : Nat) (e : D), getV (wipeV ρ i) j = some e → j ≠ i ∧ getV ρ j = some e
  | [], _, _, _, h => by simp [wipeV, getV] at h
  | _ :: r, 0, 0, e, h => by simp [wipeV, getV] at h
  | _ :: r, 0, j + 1, e, h => ⟨by omega, h⟩
  | x :: r, i + 1, 0, e, h => ⟨by omega, h⟩
  | x :: r, i + 1, j + 1, e, h => by
    obtain ⟨h1, h2⟩ := getV_wipeV r i j e h
    exact ⟨by omega, h2⟩
section
variable {K : Frg} {H H' : Hp} {A A' : List Addr} {M : Mem} {σ : L2.St} {ρ : En}
theorem Rs.set (r : Rs K H A σ ρ) {v : V} {d : D} (q : Rp K H A v d) (i : Nat) : Rs K H A (σ.set i (some v)) (setV ρ i d) := by
  refine ⟨by rw [List.length_set, setV_len]; exact r.len, fun j e h => ?_⟩
  rcases getV_setV ρ i d j e h with ⟨rfl, h2, rfl⟩ | ⟨h1, h2⟩
  · exact ⟨v, List.getElem?_set_self (by rw [r.len]; exact h2), q⟩
  · obtain ⟨w, h3, h4⟩ := r.get j e h2
    exact ⟨w, by rw [List.getElem?_set_ne (Ne.symm h1)]; exact h3, h4⟩
theorem Rs.wipe1 (r : Rs K H A σ ρ) (i : Nat) : Rs K H A (σ.set i none) (wipeV ρ i) := by
  refine ⟨by rw [List.length_set, wipeV_len]; exact r.len, fun j e h => ?_⟩
  obtain ⟨h1, h2⟩ := getV_wipeV ρ i j e h
  obtain ⟨w, h3, h4⟩ := r.get j e h2
  exact ⟨w, by rw [List.getElem?_set_ne (Ne.symm h1)]; exact h3, h4⟩
theorem Rs.wipes (r : Rs K H A σ ρ) : ∀ vs : List Nat, Rs K H A (wipe σ vs) (wipesV ρ vs)
  | [] => r
  | v :: vs => (Rs.wipes r vs).wipe1 v
/-! the list that a comprehension fills stands outside the memory -/
/-- neither a list nor a dict, nor one that is walked -/
def PlO : HO → Prop
  | .lst _ => False
  | .dT _ => False
  | .frz _ _ => False
  | _ => True
def SameL (H H' : Hp) (a : Addr) : Prop := (∀ vs, H a = some (.lst vs) → ∃ ws, H' a = some (.lst ws)) ∧ ∀ o, H a = some o → DctO o → ∃ o', H' a = some o' ∧ DctO o'
theorem SameK.l {H H' : Hp} {a : Addr} (h : SameK H H' a) : SameL H H' a := ⟨h.1, h.2.1⟩
mutual
theorem Rp.tr (ht : ∀ a vs, TkA K H a vs → TkA K H' a vs) (hf : ∀ a vs, SqF K H a vs → SqF K H' a vs) (hA : ∀ (n : Nat) (a : Addr), A[n]? = some a → A'[n]? = some a) (hO : ∀ a o, PlO o → H a = some o → H' a = some o) (hk : ∀ a, SameL H H' a) : ∀ {v : V} {d : D}, Rp K H A v d → Rp K H' A' v d
  | _, _, .non => .non
  | _, _, .bl b => .bl b
  | _, _, .int b => .int b
  | _, _, .str b => .str b
  | _, _, .tup h l => .tup (ht _ _ h) (RpL.tr ht hf hA hO hk l)
  | _, _, .lst h ⟨us, k⟩ => .lst (hA _ _ h) ((hk _).1 us k)
  | _, _, .dct h ⟨o, k, d⟩ => .dct (hA _ _ h) ((hk _).2 o k d)
  | _, _, .scr h => .scr (hf _ _ h)
  | _, _, .exc h0 h1 h2 h3 l => .exc h0 (hO _ _ trivial h1) (hO _ _ trivial h2) h3 (RpL.tr ht hf hA hO hk l)
theorem RpL.tr (ht : ∀ a vs, TkA K H a vs → TkA K H' a vs) (hf : ∀ a vs, SqF K H a vs → SqF K H' a vs) (hA : ∀ (n : Nat) (a : Addr), A[n]? = some a → A'[n]? = some a) (hO : ∀ a o, PlO o → H a = some o → H' a = some o) (hk : ∀ a, SameL H H' a) : ∀ {v : List V} {d : List D}, RpL K H A v d → RpL K H' A' v d
  | _, _, .nil => .nil
  | _, _, .cons h l => .cons (Rp.tr ht hf hA hO hk h) (RpL.tr ht hf hA hO hk l)
end
theorem sqT_updL {p : Addr} {vs ws : List V} (hp : H p = some (.lst vs)) {a : Addr} {us : List V} (h : SqT K H a us) : SqT K (upd H p (.lst ws)) a us := by
  rcases h with (h | ⟨o, h⟩) | h
  · exact .inl (.inl (by rw [upd_ne (ne_of h hp (by intro z; cases z))]; exact h))
  · exact .inl (.inr ⟨o, by rw [upd_ne (ne_of h hp (by intro z; cases z))]; exact h⟩)
  · exact .inr h
theorem sqF_updL {p : Addr} {vs ws : List V} (hp : H p = some (.lst vs)) {a : Addr} {us : List V} (h : SqF K H a us) : SqF K (upd H p (.lst ws)) a us := by
  rcases h with ⟨o, h⟩ | h
  · exact .inl ⟨o, by rw [upd_ne (ne_of h hp (by intro z; cases z))]; exact h⟩
  · exact .inr h
theorem KvR.tr (ht : ∀ a vs, TkA K H a vs → TkA K H' a vs) (hf : ∀ a vs, SqF K H a vs → SqF K H' a vs) (hA : ∀ (n : Nat) (a : Addr), A[n]? = some a → A'[n]? = some a) (hO : ∀ a o, PlO o → H a = some o → H' a = some o) (hk : ∀ a, SameL H H' a) : ∀ {v : List (List L2.Key × V)} {d : Tab}, KvR K H A v d → KvR K H' A' v d
  | _, _, .nil => .nil
  | _, _, .cons h l => .cons (Rp.tr ht hf hA hO hk h) (KvR.tr ht hf hA hO hk l)
theorem tA_updL {p : Addr} {vs ws : List V} (hp : H p = some (.lst vs)) {a : Addr} {us : List V} (h : TkA K H a us) : TkA K (upd H p (.lst ws)) a us := by
  rcases h with h | ⟨h, z⟩
  · exact .inl (by rw [upd_ne (ne_of h hp (by intro z; cases z))]; exact h)
  · exact .inr ⟨sqT_updL hp h, z⟩
theorem same_updL {p : Addr} {vs ws : List V} (hp : H p = some (.lst vs)) (a : Addr) : SameK H (upd H p (.lst ws)) a := by
  by_cases e : a = p
  · rw [e]; exact same_lst hp
  · exact same_ne fun _ => e
theorem RpL.updL {p : Addr} {vs ws : List V} (hp : H p = some (.lst vs)) {us : List V} {ds : List D} (h : RpL K H A us ds) : RpL K (upd H p (.lst ws)) A us ds :=
  h.tr (fun _ _ z => tA_updL hp z) (fun _ _ z => sqF_updL hp z) (fun _ _ z => z) (fun a o no z => by rw [upd_ne (ne_of z hp (fun e => by subst e; exact no))]; exact z) (fun a => (same_updL hp a).l)
theorem KvR.updL {p : Addr} {vs ws : List V} (hp : H p = some (.lst vs)) {us : List (List L2.Key × V)} {ds : Tab} (h : KvR K H A us ds) : KvR K (upd H p (.lst ws)) A us ds :=
  h.tr (fun _ _ z => tA_updL hp z) (fun _ _ z => sqF_updL hp z) (fun _ _ z => z) (fun a o no z => by rw [upd_ne (ne_of z hp (fun e => by subst e; exact no))]; exact z) (fun a => (same_updL hp a).l)
theorem Rm.updL {p : Addr} {vs ws : List V} (m : Rm K H A M) (hp : H p = some (.lst vs)) (hn : p ∉ A) : Rm K (upd H p (.lst ws)) A M :=
  ⟨m.len, m.nd, fun n ds e => by
    obtain ⟨a, h1, h2⟩ := m.at_ n ds e
    have ne : a ≠ p := fun z => hn (z ▸ List.mem_of_getElem? h1)
    refine ⟨a, h1, ?_⟩
    cases h2 with
    | lst h2 h3 => exact .lst (by rw [upd_ne ne]; exact h2) (h3.updL hp)
    | dct h2 h3 => exact .dct (by rw [upd_ne ne]; exact h2) (h3.updL hp)
    | frz h2 h3 => exact .frz (by rw [upd_ne ne]; exact h2) (h3.updL hp)⟩
theorem Rm.adopt {p : Addr} {vs : List V} {ds : List D} (m : Rm K H A M) (hp : H p = some (.lst vs)) (hn : p ∉ A) (r : RpL K H A vs ds) : Rm K H (A ++ [p]) (M ++ [ds]) := by
  have hA : ∀ (n : Nat) (a : Addr), A[n]? = some a → (A ++ [p])[n]? = some a := fun n a e => by
    rw [List.getElem?_append_left (List.getElem?_eq_some_iff.mp e).1]; exact e
  have tr : ∀ {us : List V} {es : List D}, RpL K H A us es → RpL K H (A ++ [p]) us es := fun h => h.tr (fun _ _ z => z) (fun _ _ z => z) hA (fun _ _ _ z => z) fun _ => (SameK.refl _ _).l
  have trk : ∀ {us : List (List L2.Key × V)} {es : Tab}, KvR K H A us es → KvR K H (A ++ [p]) us es := fun h => h.tr (fun _ _ z => z) (fun _ _ z => z) hA (fun _ _ _ z => z) fun _ => (SameK.refl _ _).l
  refine ⟨by simp [m.len], ?_, fun n es e => ?_⟩
  · rw [List.nodup_append]
    exact ⟨m.nd, by simp, fun a ha b hb z => hn (by rw [← List.mem_singleton.mp hb, ← z]; exact ha)⟩
  · by_cases hl : n < M.length
    · rw [List.getElem?_append_left hl] at e
      obtain ⟨a, h1, h2⟩ := m.at_ n es e
      refine ⟨a, hA _ _ h1, ?_⟩
      cases h2 with
      | lst h2 h3 => exact .lst h2 (tr h3)
      | dct h2 h3 => exact .dct h2 (trk h3)
      | frz h2 h3 => exact .frz h2 (trk h3)
    · have hl' : n < (M ++ [ds]).length := (List.getElem?_eq_some_iff.mp e).1
      have en : n = M.length := by simp at hl'; omega
      subst en
      rw [List.getElem?_append_right (Nat.le_refl _)] at e
      simp at e
      subst e
      exact ⟨p, by rw [← m.len, List.getElem?_append_right (Nat.le_refl _)]; simp, .lst hp (tr r)⟩
/-! a dict's cell locked, or unlocked -/
def FDT : HO → Prop
  | .frz _ u => (match u with | .dT _ => True | _ => False)
  | .dT _ => True
  | _ => False
section
variable {p : Addr} {o o' : HO}
theorem fdt_tA (hp : H p = some o) (ho : FDT o) {a : Addr} {us : List V} (h : SqT K H a us) : SqT K (upd H p o') a us := by
  rcases h with (h | ⟨q, h⟩) | h
  · exact .inl (.inl (by rw [upd_ne (ne_of h hp (by intro z; subst z; exact ho))]; exact h))
  · exact .inl (.inr ⟨q, by rw [upd_ne (ne_of h hp (by intro z; subst z; exact ho))]; exact h⟩)
  · exact .inr h
theorem fdt_tk (hp : H p = some o) (ho : FDT o) {a : Addr} {us : List V} (h : TkA K H a us) : TkA K (upd H p o') a us := by
  rcases h with h | ⟨h, z⟩
  · exact .inl (by rw [upd_ne (ne_of h hp (by intro z; subst z; exact ho))]; exact h)
  · exact .inr ⟨fdt_tA hp ho h, z⟩
theorem fdt_f (hp : H p = some o) (ho : FDT o) {a : Addr} {us : List V} (h : SqF K H a us) : SqF K (upd H p o') a us := by
  rcases h with ⟨q, h⟩ | h
  · exact .inl ⟨q, by rw [upd_ne (ne_of h hp (by intro z; subst z; exact ho))]; exact h⟩
  · exact .inr h
theorem fdt_d (ho : FDT o) : DctO o := by
  cases o with
  | dT k => exact .inl ⟨_, rfl⟩
  | frz u x => cases x <;> first | exact .inr ⟨_, _, rfl⟩ | exact ho.elim
  | _ => exact ho.elim
theorem fdt_same (hp : H p = some o) (ho : FDT o) (ho' : FDT o') (a : Addr) : SameL H (upd H p o') a := by
  by_cases e : a = p
  · subst e
    exact ⟨fun vs h => by rw [hp] at h; cases h; exact ho.elim, fun q h d => ⟨o', upd_same, fdt_d ho'⟩⟩
  · exact ⟨fun vs h => ⟨vs, by rw [upd_ne e]; exact h⟩, fun q h d => ⟨q, by rw [upd_ne e]; exact h, d⟩⟩
theorem fdt_O (hp : H p = some o) (ho : FDT o) : ∀ a q, PlO q → H a = some q → upd H p o' a = some q := fun a q no z => by
  rw [upd_ne (ne_of z hp (fun e => by subst e; cases q <;> first | exact ho | exact no))]; exact z
theorem RpL.swap (hp : H p = some o) (ho : FDT o) (ho' : FDT o') {us : List V} {ds : List D} (h : RpL K H A us ds) : RpL K (upd H p o') A us ds :=
  h.tr (fun _ _ z => fdt_tk hp ho z) (fun _ _ z => fdt_f hp ho z) (fun _ _ z => z) (fdt_O hp ho) (fdt_same hp ho ho')
theorem Rp.swap (hp : H p = some o) (ho : FDT o) (ho' : FDT o') {v : V} {d : D} (h : Rp K H A v d) : Rp K (upd H p o') A v d :=
  h.tr (fun _ _ z => fdt_tk hp ho z) (fun _ _ z => fdt_f hp ho z) (fun _ _ z => z) (fdt_O hp ho) (fdt_same hp ho ho')
theorem KvR.swap (hp : H p = some o) (ho : FDT o) (ho' : FDT o') {us : List (List L2.Key × V)} {ds : Tab} (h : KvR K H A us ds) : KvR K (upd H p o') A us ds :=
  h.tr (fun _ _ z => fdt_tk hp ho z) (fun _ _ z => fdt_f hp ho z) (fun _ _ z => z) (fdt_O hp ho) (fdt_same hp ho ho')
theorem Rm.swap {n : Nat} {ds' : List D} (m : Rm K H A M) (hp : H p = some o) (ho : FDT o) (ho' : FDT o') (ha : A[n]? = some p) (hc : Cel K (upd H p o') A p ds') : Rm K (upd H p o') A (M.set n ds') := by
  have hn : n < M.length := by rw [← m.len]; exact (List.getElem?_eq_some_iff.mp ha).1
  refine ⟨by simp [m.len], m.nd, fun j es e => ?_⟩
  by_cases hj : j = n
  · subst hj
    rw [List.getElem?_set_self hn] at e
    cases e
    exact ⟨p, ha, hc⟩
  · rw [List.getElem?_set_ne (Ne.symm hj)] at e
    obtain ⟨b, h1, h2⟩ := m.at_ j es e
    have ne : b ≠ p := fun z => hj (nd_ix m.nd h1 (by rw [z]; exact ha))
    refine ⟨b, h1, ?_⟩
    cases h2 with
    | lst h2 h3 => exact .lst (by rw [upd_ne ne]; exact h2) (h3.swap hp ho ho')
    | dct h2 h3 => exact .dct (by rw [upd_ne ne]; exact h2) (h3.swap hp ho ho')
    | frz h2 h3 => exact .frz (by rw [upd_ne ne]; exact h2) (h3.swap hp ho ho')
theorem Rs.swap {ρ : En} {σ : L2.St} (hp : H p = some o) (ho : FDT o) (ho' : FDT o') (r : Rs K H A σ ρ) : Rs K (upd H p o') A σ ρ :=
  ⟨r.len, fun i d e => let ⟨v, h, q⟩ := r.get i d e; ⟨v, h, q.swap hp ho ho'⟩⟩
end
end
section
variable {X : Cx} {G : Gam} {fs : List String} {k : Nat} {pos p q : Pos} {x y z : Expr} {a b c : IE} {es : List Expr} {xs : IE}
/-! a comprehension's target -/
def gCp (K : Frg) (tg : List Nat) : L2.TG := fun v σ H Q => ∃ A M d ρ Qd, Rp K H A v d ∧ Rs K H A σ ρ ∧ Rm K H A M ∧ tgV tg d ρ Qd ∧
  ∀ ρ' σ', Qd ρ' → Rs K H A σ' ρ' → (∀ j, j ∉ tg → σ'[j]? = σ[j]?) → σ'.length = σ.length → Q σ' H
def gNs (is : List Nat) : L2.TGs := fun vs σ H Q => vs.length = is.length ∧ Q ((is.zip vs).foldl (fun σ p => σ.set p.1 (some p.2)) σ) H
theorem _root_.L2.PG.weak {X : Cx} {e : Expr} {t t' : L2.TG} (h : PG X e t) (w : ∀ v σ H κ, t' v σ H κ → t v σ H κ) : PG X e t' := ⟨fun pins s σ H v u κ I r q => h.run pins s σ H v u κ I r (w v σ H κ q)⟩
theorem _root_.L2.PGs.weak {X : Cx} {e : List Expr} {t t' : L2.TGs} (h : PGs X e t) (w : ∀ v σ H κ, t' v σ H κ → t v σ H κ) : PGs X e t' := ⟨fun pins s σ H v u κ I r q => h.run pins s σ H v u κ I r (w v σ H κ q)⟩
theorem pgs_names {scope : Scope} {vs : List Nat} (hN : X.N.Nodup) (hl : ∀ x, locB scope x = true → Loc X.env.scope x ∧ (X.fn x = true ∨ X.env.scope.names.lookup x = some .local)) :
    ∀ (is : List Nat) (es : List Expr), tgNames X.N scope vs is es = true → PGs X es (gNs is) ∧ es.length = is.length ∧ (assignEach es X.env).length = is.length ∧ (assignEach es X.env).findIdx? (·.1) = none
  | [], [], _ => ⟨pgs_nil.weak fun v σ H κ ⟨h1, h2⟩ => by
      cases v with
      | nil => exact ⟨rfl, h2⟩
      | cons _ _ => simp at h1, rfl, rfl, rfl⟩
  | [], _ :: _, h => by simp [tgNames] at h
  | _ :: _, [], h => by simp [tgNames] at h
  | i :: is, e :: es, h => by
    cases e with
    | Name x px =>
      simp only [tgNames, Bool.and_eq_true, decide_eq_true_eq] at h
      obtain ⟨⟨⟨h1, h2⟩, h3⟩, h4⟩ := h
      obtain ⟨i1, i2, i3, i4⟩ := pgs_names hN hl is es h4
      obtain ⟨l1, l2⟩ := hl x h2
      refine ⟨(pgs_cons (pg_name hN h1 l1 l2) i1).weak fun v σ H κ ⟨q1, q2⟩ => ?_, by simp [i2], by show _ + 1 = _; rw [i3]; rfl, ?_⟩
      · cases v with
        | nil => simp at q1
        | cons v vr => exact ⟨v, vr, rfl, by simpa using q1, q2⟩
      · show ((false, assign (.Name x px) X.env) :: assignEach es X.env).findIdx? (·.1) = none
        rw [List.findIdx?_cons, i4]
        rfl
    | _ => simp [tgNames] at h
theorem setsV_fold {K : Frg} {H : Hp} {A : List Addr} : ∀ (is : List Nat) (vs : List V) (ds : List D) (σ : L2.St) (ρ ρ' : En), RpL K H A vs ds → Rs K H A σ ρ → setsV ρ is ds = some ρ' →
    vs.length = is.length ∧ Rs K H A ((is.zip vs).foldl (fun σ p => σ.set p.1 (some p.2)) σ) ρ'
  | [], [], _, σ, ρ, ρ', .nil, rs, h => by cases h; exact ⟨rfl, rs⟩
  | [], _ :: _, _ :: _, _, _, _, _, _, h => by cases h
  | _ :: _, [], _, _, _, _, .nil, _, h => by cases h
  | i :: is, v :: vs, d :: ds, σ, ρ, ρ', .cons r l, rs, h => by
    obtain ⟨h1, h2⟩ := setsV_fold is vs ds (σ.set i (some v)) (setV ρ i d) ρ' l (rs.set r i) h
    exact ⟨by simp [h1], h2⟩
theorem fold_keep : ∀ (is : List Nat) (vs : List V) (σ : L2.St), ((is.zip vs).foldl (fun σ p => σ.set p.1 (some p.2)) σ).length = σ.length ∧ ∀ j, j ∉ is → ((is.zip vs).foldl (fun σ p => σ.set p.1 (some p.2)) σ)[j]? = σ[j]?
  | [], vs, σ => by simp
  | _ :: _, [], σ => by simp
  | i :: is, v :: vs, σ => by
    obtain ⟨h1, h2⟩ := fold_keep is vs (σ.set i (some v))
    refine ⟨by simpa using h1, fun j hj => ?_⟩
    simp only [List.mem_cons, not_or] at hj
    rw [List.zip_cons_cons, List.foldl_cons, h2 j hj.2, List.getElem?_set_ne (Ne.symm hj.1)]
theorem tgV_t {tg : List Nat} {d : D} {ρ : En} {Q : En → Prop} (h : 2 ≤ tg.length) (w : tgV tg d ρ Q) : ∃ ds ρ', d = .tup ds ∧ setsV ρ tg ds = some ρ' ∧ Q ρ' := by
  match tg, h, w with
  | _ :: _ :: _, _, w =>
    cases d with
    | tup ds =>
      simp only [tgV] at w
      split at w
      · exact ⟨ds, _, rfl, by assumption, w⟩
      · exact w.elim
    | _ => exact False.elim w
theorem g_cp {scope : Scope} {vs tg : List Nat} (hc : X.calm = true) (hN : X.N.Nodup) (hl : ∀ x, locB scope x = true → Loc X.env.scope x ∧ (X.fn x = true ∨ X.env.scope.names.lookup x = some .local)) (h : chkTg X.N scope vs tg x = true) :
    PG X x (gCp X.K tg) := by
  match tg, x, h with
  | [i], .Name n px, h =>
    simp only [chkTg, Bool.and_eq_true, decide_eq_true_eq] at h
    obtain ⟨l1, l2⟩ := hl n h.1.2
    refine (pg_name hN h.1.1 l1 l2).weak fun v σ H κ ⟨A, M, d, ρ, Qd, r, rs, m, w, hq⟩ => hq _ _ w (rs.set r i) (fun j hj => ?_) (by simp)
    rw [List.getElem?_set_ne (fun z => hj (by simp [z]))]
  | tg, .Tuple es n px, h =>
    have h' : (decide (2 ≤ tg.length) && decide tg.Nodup && tgNames X.N scope vs tg es) = true := by
      match tg, h with
      | [], h => exact h
      | [_], h => exact h
      | _ :: _ :: _, h => exact h
    simp only [Bool.and_eq_true, decide_eq_true_eq] at h'
    obtain ⟨⟨h1, h2⟩, h3⟩ := h'
    obtain ⟨i1, i2, i3, i4⟩ := pgs_names hN hl tg es h3
    refine (pg_tup (n := tg.length) hc i1 i3 i4).weak fun v σ H κ ⟨A, M, d, ρ, Qd, r, rs, m, w, hq⟩ => ?_
    obtain ⟨ds, ρ', rfl, e, q⟩ := tgV_t h1 w
    cases r with
    | tup ha la =>
      obtain ⟨f1, f2⟩ := setsV_fold tg _ _ σ ρ ρ' la rs e
      obtain ⟨k1, k2⟩ := fold_keep tg _ σ
      exact ⟨_, _, rfl, ha.sq, f1, f1, hq _ _ q f2 k2 k1⟩
end
end DL

set_option Elab.async false
set_option linter.all false
set_option maxRecDepth 100000
set_option maxHeartbeats 4000000
namespace DL
open PySem L2 PySem.Spec PyProof.Rows
section
variable {X : Cx} {G : Gam} {fs : List String} {k : Nat} {pos p q : Pos} {x y z : Expr} {a b c : IE} {es : List Expr} {xs : IE}
theorem c_nil : PTs X [] (rdC G X.K .nil) := pts_nil.weak fun σ H κ ⟨A, ρ, M, Q, hs, hm, hw, hl⟩ => hl true M H A hw (Stp.refl H A) hm
theorem c_one {r : IE} (h : PT X x (rdT G X.K a)) : PTs X [x] (rdC G X.K (.cons a r)) := (pts_one h).weak fun σ H κ h => h
theorem o_nil : PO X none (rdO G X.K .nil) := po_none.weak fun σ H κ ⟨A, ρ, M, Q, hs, hm, hw, hl⟩ => hl none M H A hw (Stp.refl H A) hm
theorem o_some {r : IE} (h : PE X x (rdE G X.K a)) : PO X (some x) (rdO G X.K (.cons a r)) :=
  (po_some h).weak fun σ H κ ⟨A, ρ, M, Q, hs, hm, hw, hl⟩ => ⟨A, ρ, M, _, hs, hm, hw, fun d M1 v H1 A1 ⟨i, e, q1⟩ s1 m1 r1 => by
    subst e; cases r1; exact ⟨i, rfl, hl _ M1 H1 A1 q1 s1 m1⟩⟩
theorem wipe_none : ∀ (vs : List Nat) (σ : L2.St) (j : Nat), j ∈ vs → (wipe σ vs)[j]? = none ∨ (wipe σ vs)[j]? = some none
  | [], _, _, h => by cases h
  | v :: vs, σ, j, h => by
    unfold wipe
    by_cases e : v = j
    · subst e
      by_cases hl : v < (wipe σ vs).length
      · exact .inr (List.getElem?_set_self hl)
      · exact .inl (List.getElem?_eq_none (by simpa using hl))
    · rw [List.getElem?_set_ne e]
      rcases List.mem_cons.mp h with h | h
      · exact (e h.symm).elim
      · exact wipe_none vs σ j h
theorem wipe_keep : ∀ (vs : List Nat) (σ : L2.St) (j : Nat), j ∉ vs → (wipe σ vs)[j]? = σ[j]?
  | [], _, _, _ => rfl
  | v :: vs, σ, j, h => by
    simp only [List.mem_cons, not_or] at h
    unfold wipe
    rw [List.getElem?_set_ne (Ne.symm h.1)]
    exact wipe_keep vs σ j h.2
theorem wipe_same {vs tg : List Nat} {σ σ' : L2.St} (ht : ∀ j ∈ tg, j ∈ vs) (hk : ∀ j, j ∉ tg → σ'[j]? = (wipe σ vs)[j]?) (hl : σ'.length = (wipe σ vs).length) : wipe σ' vs = wipe σ vs := by
  refine List.ext_getElem? fun j => ?_
  by_cases hj : j ∈ vs
  · have l1 : (wipe σ' vs).length = (wipe σ vs).length := by rw [wipe_length, hl]
    by_cases hb : j < (wipe σ vs).length
    · rcases wipe_none vs σ' j hj with e | e
      · have := List.getElem?_eq_none_iff.mp e
        omega
      · rcases wipe_none vs σ j hj with e' | e'
        · have := List.getElem?_eq_none_iff.mp e'
          omega
        · rw [e, e']
    · rw [List.getElem?_eq_none (by omega), List.getElem?_eq_none (by omega)]
  · rw [wipe_keep vs σ' j hj]
    exact hk j fun z => hj (ht j z)
/-- what a turn of a comprehension holds -/
structure CompI (K : Frg) (H1 : Hp) (A1 : List Addr) (Dn : Addr) (Pv : List D → Mem → Prop) (H : Hp) : Prop where
  ex : ∃ A M acc vs, H Dn = some (.lst vs) ∧ Dn ∉ A ∧ RpL K H A vs acc ∧ Rm K H A M ∧ Stp H1 A1 H A ∧ Pv acc M
theorem lc_read {elt it cond : IE} {vs tg : List Nat} (ht : ∀ j ∈ tg, j ∈ vs) {σ : L2.St} {H : Hp} {κ : VK} (h : rdE G X.K (.comp elt vs tg it cond) σ H κ) :
    tLc (rdI G X.K it) (gCp X.K tg) (rdC G X.K cond) (rdE G X.K elt) vs σ H κ := by
  obtain ⟨A, ρ, M, Q, hs, hm, hw, hl⟩ := h
  refine ⟨A, ρ, M, _, hs, hm, hw, fun src M1 H1 A1 J ⟨xs, ex, hz, Pv, h0, hst, htn, hend⟩ s1 m1 itr _ Dn hD => ?_⟩
  refine ⟨fun i m H => m = xs.length - i ∧ i ≤ xs.length ∧ CompI X.K H1 A1 Dn (Pv i) H, ⟨xs.length, by simp, Nat.zero_le _, ⟨A1, M1, [], [], upd_same, m1.fresh hD, .nil, rm_upd m1 hD, stp_upd m1 hD, h0⟩⟩, ?_⟩
  rintro i m H2 ⟨rfl, hi, ⟨A2, M2, acc, ws, hD2, nD, racc, m2, st2, pv⟩⟩
  obtain ⟨hacc, hit⟩ := hst i acc M2 hi pv
  by_cases hlt : i < xs.length
  · refine .inr ⟨itr.go H2 A2 M2 xs i xs[i] st2 m2 hit (by simp [hlt]), fun H' => CompI X.K H1 A1 Dn (Pv (i + 1)) H', fun H' n => ⟨xs.length - (i + 1), by omega, rfl, hlt, n⟩, fun v H3 hy => ?_⟩
    obtain ⟨st3, m3, r3⟩ := itr.yld H2 A2 M2 xs i xs[i] v H3 st2 m2 hit (by simp [hlt]) hy
    obtain ⟨hD3, _⟩ := st3.keep Dn _ hD2 nD
    have st13 := st2.trans st3
    have rs3 := (hs.stp hm (s1.trans st13)).wipes vs
    refine ⟨A2, M2, xs[i], wipesV ρ vs, _, r3, rs3, m3, htn i xs[i] acc M2 (by simp [hlt]) pv, fun ρ' σ' q rs' hk hln => ⟨wipe_same ht hk hln, ?_⟩⟩
    refine ⟨A2, ρ', M2, _, rs', m3, q, fun bb M4 H4 A4 q4 s4 m4 => ?_⟩
    obtain ⟨hD4, nD4⟩ := s4.keep Dn _ hD3 nD
    have racc4 := (racc.stp m2 st3).stp m3 s4
    cases bb with
    | false => exact ⟨A4, M4, acc, ws, hD4, nD4, racc4, m4, st13.trans s4, q4⟩
    | true =>
      refine ⟨A4, ρ', M4, _, rs'.stp m3 s4, m4, q4, fun d5 M5 v5 H5 A5 q5 s5 m5 r5 => ?_⟩
      obtain ⟨hD5, nD5⟩ := s5.keep Dn _ hD4 nD4
      have racc5 := racc4.stp m4 s5
      refine ⟨ws, hD5, by rw [racc5.length]; omega, ⟨A5, M5, acc ++ [d5], ws ++ [v5], upd_same, nD5, (racc5.append (.cons r5 .nil)).updL hD5, m5.updL hD5 nD5, ?_, q5⟩⟩
      have st15 := (st13.trans s4).trans s5
      exact ⟨st15.more, fun b o e nb => by
        obtain ⟨e1, n1⟩ := st15.keep b o e nb
        exact ⟨by rw [upd_ne (ne_of_none e hD)]; exact e1, n1⟩, fun a ha => ⟨fun vs h => by
          obtain ⟨us, h'⟩ := (st15.kind a ha).1 vs h
          exact ⟨us, by rw [upd_ne (ne_of_none h hD)]; exact h'⟩, fun o h d => by
          obtain ⟨o', h', d'⟩ := (st15.kind a ha).2.1 o h d
          exact ⟨o', by rw [upd_ne (ne_of_none h hD)]; exact h', d'⟩, fun u x h => by
          rw [upd_ne (ne_of_none h hD)]
          exact (st15.kind a ha).2.2 u x h⟩⟩
  · have e : i = xs.length := by omega
    subst e
    refine .inl ⟨itr.stop H2 A2 M2 xs _ st2 m2 hit (Nat.le_refl _), ?_⟩
    refine hl (.lst M2.length) (M2 ++ [acc]) (.ref Dn) H2 (A2 ++ [Dn]) (hend acc M2 pv) ?_ (m2.adopt hD2 nD racc) (.lst (by rw [← m2.len, List.getElem?_append_right (Nat.le_refl _)]; simp) ⟨_, hD2⟩)
    have st := s1.trans st2
    obtain ⟨B, hB⟩ := st.more
    refine ⟨⟨B ++ [Dn], by rw [hB, List.append_assoc]⟩, fun b o e nb => ?_, st.kind⟩
    obtain ⟨e1, n1⟩ := st.keep b o e nb
    refine ⟨e1, fun z => ?_⟩
    rcases List.mem_append.mp z with z | z
    · exact n1 z
    · obtain ⟨e2, _⟩ := s1.keep b o e nb
      rw [List.mem_singleton.mp z, hD] at e2
      cases e2
theorem tgNames_in {N : List Str} {scope : Scope} {vs : List Nat} : ∀ {is : List Nat} {es : List Expr}, tgNames N scope vs is es = true → ∀ j ∈ is, j ∈ vs
  | [], [], _, j, h => by cases h
  | [], _ :: _, h, _, _ => by simp [tgNames] at h
  | _ :: _, [], h, _, _ => by simp [tgNames] at h
  | i :: is, e :: es, h, j, hj => by
    cases e with
    | Name x px =>
      simp only [tgNames, Bool.and_eq_true, List.contains_iff_mem] at h
      rcases List.mem_cons.mp hj with rfl | hj
      · exact h.1.2
      · exact tgNames_in h.2 j hj
    | _ => simp [tgNames] at h
theorem chkTg_in {N : List Str} {scope : Scope} {vs tg : List Nat} (h : chkTg N scope vs tg x = true) : ∀ j ∈ tg, j ∈ vs := by
  match tg, x, h with
  | [i], .Name n px, h =>
    simp only [chkTg, Bool.and_eq_true, decide_eq_true_eq, List.contains_iff_mem] at h
    intro j hj
    rw [List.mem_singleton.mp hj]
    exact h.2
  | tg, .Tuple es n px, h =>
    have h' : (decide (2 ≤ tg.length) && decide tg.Nodup && tgNames N scope vs tg es) = true := by
      match tg, h with
      | [], h => exact h
      | [_], h => exact h
      | _ :: _ :: _, h => exact h
    simp only [Bool.and_eq_true] at h'
    exact tgNames_in h'.2
theorem Good.blk (g : Good G fs k X) (s : Shared) (H : Hp) (scope : Scope) (cenv : Env) (fp : List Addr) : Good G fs k (X.blk s H scope cenv fp) := ⟨g.calm, g.nd, g.gd, g.room, g.bi, g.fn⟩
theorem blk_loc {scope : Scope} {s : Shared} {H : Hp} {C : Addr} {cl : List (Str × Addr)} {fp : List Addr} {n : Str} (h : locB scope n = true) :
    Loc (X.blk s H scope (compEnvC scope cl C X.env) fp).env.scope n ∧ ((X.blk s H scope (compEnvC scope cl C X.env) fp).fn n = true ∨ (X.blk s H scope (compEnvC scope cl C X.env) fp).env.scope.names.lookup n = some .local) := by
  unfold locB at h
  split at h
  · rename_i e
    have e2 : (relS scope X.env.scope).names.lookup n = some .local := lookup_relS_keep (by decide) e
    exact ⟨.inl e2, .inr e2⟩
  · rename_i e
    have e2 : (relS scope X.env.scope).names.lookup n = some .cell := lookup_relS_keep (by decide) e
    refine ⟨.inr e2, .inl ?_⟩
    show (scope.names.lookup n == some .cell) = true
    rw [e]
    rfl
  · cases h
theorem fset (h : noSet x = true) : ∀ v, foldedSetIterable x X.env v = pure v := by
  intro v
  cases x <;> first | rfl | cases h
/-- the parts of a comprehension -/
structure CompP (G : Gam) (fs : List String) (X : Cx) (elt it cond : IE) (vs tg : List Nat) (e t i : Expr) (ifs : List Expr) (scope : Scope) : Prop where
  bl : BlkOk X.N X.env.scope scope (ownOf X.N vs)
  ow : (ownOf X.N vs).map (·.2) = vs
  tg_ : ∀ j ∈ tg, j ∈ vs
  it_ : PI X t i (rdI G X.K it)
  ns : noSet i = true
  g_ : ∀ (s : Shared) (H : Hp) (C : Addr) (cl : List (Str × Addr)) (fp : List Addr), PG (X.blk s H scope (compEnvC scope cl C X.env) fp) t (gCp X.K tg)
  c_ : ∀ (s : Shared) (H : Hp) (C : Addr) (cl : List (Str × Addr)) (fp : List Addr), PTs (X.blk s H scope (compEnvC scope cl C X.env) fp) ifs (rdC G X.K cond)
  e_ : ∀ (s : Shared) (H : Hp) (C : Addr) (cl : List (Str × Addr)) (fp : List Addr), PE (X.blk s H scope (compEnvC scope cl C X.env) fp) e (rdE G X.K elt)
theorem s_comp {elt it cond : IE} {vs tg : List Nat} {e t i : Expr} {ifs : List Expr} {scope : Scope} (g : Good G fs k X) (hq : cold fs = true) (P : CompP G fs X elt it cond vs tg e t i ifs scope) : PE X (.ListComp e [⟨t, i, ifs, 0⟩] scope pos) (rdE G X.K (.comp elt vs tg it cond)) :=
  (pe_lc (g.calm hq) g.nd P.it_ P.bl P.g_ P.c_ P.e_ (fset P.ns)).weak fun σ H κ h => by rw [P.ow]; exact lc_read P.tg_ h
/-! a comprehension that walks a dict: it is locked meanwhile -/
theorem KvR.at {K : Frg} {H : Hp} {A : List Addr} : ∀ {kvs : List (List L2.Key × V)} {ls : Tab} {i : Nat} {kk : List L2.Key} {v : V}, KvR K H A kvs ls → kvs[i]? = some (kk, v) → ∃ p d, ls[i]? = some (p, d) ∧ kk = keyP p
  | _, _, 0, _, _, .cons _ _, h => by simp at h; exact ⟨_, _, rfl, h.1.symm⟩
  | _, _, i + 1, _, _, .cons _ l, h => by
    obtain ⟨p, d, e, f⟩ := KvR.at (i := i) l (by simpa using h)
    exact ⟨p, d, by simpa using e, f⟩
  | _, _, i, _, _, .nil, h => by simp at h
theorem compd_read {elt cond : IE} {vs tg : List Nat} {i : Nat} (ht : ∀ j ∈ tg, j ∈ vs) {σ : L2.St} {H : Hp} {κ : VK} (h : rdE G X.K (.compd elt vs tg i cond) σ H κ) :
    tLockE (tLc (iKeys (rdE G X.K (.var i))) (gCp X.K tg) (rdC G X.K cond) (rdE G X.K elt) vs) σ H κ := by
  obtain ⟨A, ρ, M, Q, hs, hm, ⟨n, ls, ev, eM, hz, Pv, h0, hst, htn, hend⟩, hl⟩ := h
  obtain ⟨v0, _, r0⟩ := hs.get i _ ev
  cases r0 with
  | @dct a _ ha hk =>
  obtain ⟨kvs, hd, kr⟩ := hm.dict ha eM
  have aA : a ∈ A := List.mem_of_getElem? ha
  have klen := kr.length
  refine ⟨a, .dT kvs, hd, trivial, fun od => ?_⟩
  have fd : FDT (.dT kvs) := trivial
  have ff : FDT (.frz od (.dT kvs)) := trivial
  have mF : Rm X.K (upd H a (.frz od (.dT kvs))) A (M.set n (dcF ls)) := hm.swap hd fd ff ha (.frz upd_same (kr.swap hd fd ff))
  have sF : Rs X.K (upd H a (.frz od (.dT kvs))) A σ ρ := hs.swap hd fd ff
  have eF : upd H a (.frz od (.dT kvs)) a = some (.frz od (.dT kvs)) := upd_same
  have nF : ∀ b, b ≠ a → upd H a (.frz od (.dT kvs)) b = H b := fun b hb => upd_ne hb
  generalize upd H a (.frz od (.dT kvs)) = HF at *
  have frz : ∀ {H' : Hp} {A' : List Addr}, Stp HF A H' A' → H' a = some (.frz od (.dT kvs)) := fun s => (s.kind a aA).2.2 _ _ eF
  refine ⟨A, ρ, M.set n (dcF ls), fun d M' => d = .dct n ∧ M' = M.set n (dcF ls), sF, mF, ?_, ?_⟩
  · show onV (getV ρ i) fun d => _
    rw [ev]
    exact ⟨rfl, rfl⟩
  rintro d M1 v H1 A1 ⟨rfl, rfl⟩ s1 m1 r1
  cases r1 with
  | @dct a1 _ ha1 _ =>
  have e1 : a1 = a := by
    have := s1.get ha
    rw [ha1] at this
    exact Option.some.inj this
  subst e1
  refine ⟨_, od, rfl, .inr ⟨kvs, frz s1, ?_⟩⟩
  intro Dn hD
  have aA1 : a1 ∈ A1 := List.mem_of_getElem? ha1
  refine ⟨fun i m H => m = ls.length - i ∧ i ≤ ls.length ∧ CompI X.K H1 A1 Dn (Pv i) H, ⟨ls.length, by simp, Nat.zero_le _, ⟨A1, _, [], [], upd_same, m1.fresh hD, .nil, rm_upd m1 hD, stp_upd m1 hD, h0⟩⟩, ?_⟩
  rintro i m H2 ⟨rfl, hi, ⟨A2, M2, acc, ws, hD2, nD, racc, m2, st2, pv⟩⟩
  obtain ⟨hacc, hit⟩ := hst i acc M2 hi pv
  have e2 := frz (s1.trans st2)
  by_cases hlt : i < ls.length
  · refine .inr ⟨⟨e2, by omega⟩, fun H' => CompI X.K H1 A1 Dn (Pv (i + 1)) H', fun H' n => ⟨ls.length - (i + 1), by omega, rfl, hlt, n⟩, fun v H3 hy => ?_⟩
    obtain ⟨rfl, kk, w, q, hkv, rfl, hq⟩ := hy
    obtain ⟨p, d, hp, rfl⟩ := kr.at hkv
    have hx : (ls.map fun e => pt2 e.1)[i]? = some (pt2 p) := by rw [List.getElem?_map, hp]; rfl
    have r3 : Rp X.K H3 A2 (.ref q) (pt2 p) := .tup (.inl hq) (.cons (.int _) (.cons (.int _) .nil))
    have st13 := st2
    have rs3 := (sF.stp mF (s1.trans st13)).wipes vs
    refine ⟨A2, M2, pt2 p, wipesV ρ vs, _, r3, rs3, m2, htn i (pt2 p) acc M2 hx pv, fun ρ' σ' q rs' hk hln => ⟨wipe_same ht hk hln, ?_⟩⟩
    refine ⟨A2, ρ', M2, _, rs', m2, q, fun bb M4 H4 A4 q4 s4 m4 => ?_⟩
    obtain ⟨hD4, nD4⟩ := s4.keep Dn _ hD2 nD
    have racc4 := racc.stp m2 s4
    cases bb with
    | false => exact ⟨A4, M4, acc, ws, hD4, nD4, racc4, m4, st13.trans s4, q4⟩
    | true =>
      refine ⟨A4, ρ', M4, _, rs'.stp m2 s4, m4, q4, fun d5 M5 v5 H5 A5 q5 s5 m5 r5 => ?_⟩
      obtain ⟨hD5, nD5⟩ := s5.keep Dn _ hD4 nD4
      have racc5 := racc4.stp m4 s5
      refine ⟨ws, hD5, by rw [racc5.length]; omega, ⟨A5, M5, acc ++ [d5], ws ++ [v5], upd_same, nD5, (racc5.append (.cons r5 .nil)).updL hD5, m5.updL hD5 nD5, ?_, q5⟩⟩
      have st15 := (st13.trans s4).trans s5
      exact ⟨st15.more, fun b o e nb => by
        obtain ⟨e1, n1⟩ := st15.keep b o e nb
        exact ⟨by rw [upd_ne (ne_of_none e hD)]; exact e1, n1⟩, fun a ha => ⟨fun vs h => by
          obtain ⟨us, h'⟩ := (st15.kind a ha).1 vs h
          exact ⟨us, by rw [upd_ne (ne_of_none h hD)]; exact h'⟩, fun o h d => by
          obtain ⟨o', h', d'⟩ := (st15.kind a ha).2.1 o h d
          exact ⟨o', by rw [upd_ne (ne_of_none h hD)]; exact h', d'⟩, fun u x h => by
          rw [upd_ne (ne_of_none h hD)]
          exact (st15.kind a ha).2.2 u x h⟩⟩
  · have e : i = ls.length := by omega
    subst e
    refine .inl ⟨⟨e2, by omega⟩, e2, ?_⟩
    have st := s1.trans st2
    have ha2 := st.get ha
    obtain ⟨o', kvs', e3, kr2⟩ := m2.dictF ha2 hit
    rw [e2] at e3
    cases e3
    have mU : Rm X.K (upd H2 a1 (.dT kvs)) A2 (M2.set n (dcD ls)) := m2.swap e2 ff fd ha2 (.dct upd_same (kr2.swap e2 ff fd))
    have neD : Dn ≠ a1 := fun z => nD (z ▸ List.mem_of_getElem? ha2)
    have hDU : upd H2 a1 (.dT kvs) Dn = some (.lst ws) := by rw [upd_ne neD]; exact hD2
    have raccU := racc.swap e2 ff fd (o' := .dT kvs)
    have lenU : (M2.set n (dcD ls)).length = M2.length := List.length_set ..
    refine hl (.lst M2.length) (M2.set n (dcD ls) ++ [acc]) (.ref Dn) (upd H2 a1 (.dT kvs)) (A2 ++ [Dn]) (hend acc M2 pv) ?_ (mU.adopt hDU nD raccU) (.lst (by rw [← m2.len, List.getElem?_append_right (Nat.le_refl _)]; simp) ⟨_, hDU⟩)
    obtain ⟨B, hB⟩ := st.more
    refine ⟨⟨B ++ [Dn], by rw [hB, List.append_assoc]⟩, fun b o e nb => ?_, fun b hb => ?_⟩
    · have nba : b ≠ a1 := fun z => nb (z ▸ aA)
      have eb : HF b = some o := by rw [nF b nba]; exact e
      obtain ⟨k1, n1⟩ := st.keep b o eb nb
      refine ⟨by rw [upd_ne nba]; exact k1, fun z => ?_⟩
      rcases List.mem_append.mp z with z | z
      · exact n1 z
      · obtain ⟨k2, _⟩ := s1.keep b o eb nb
        rw [List.mem_singleton.mp z, hD] at k2
        cases k2
    · by_cases eb : b = a1
      · subst eb
        exact ⟨fun vs h => (by rw [hd] at h; cases h), fun o h d => ⟨_, upd_same, .inl ⟨_, rfl⟩⟩, fun u x h => (by rw [hd] at h; cases h)⟩
      · have kb := st.kind b hb
        exact ⟨fun vs h => by
          obtain ⟨us, h'⟩ := kb.1 vs (by rw [nF b eb]; exact h)
          exact ⟨us, by rw [upd_ne eb]; exact h'⟩, fun o h d => by
          obtain ⟨o', h', d'⟩ := kb.2.1 o (by rw [nF b eb]; exact h) d
          exact ⟨o', by rw [upd_ne eb]; exact h', d'⟩, fun u x h => by
          rw [upd_ne eb]
          exact kb.2.2 u x (by rw [nF b eb]; exact h)⟩
/-- the parts of such a one -/
structure CompQ (G : Gam) (fs : List String) (X : Cx) (elt : IE) (iv : Nat) (cond : IE) (vs tg : List Nat) (e t i : Expr) (ifs : List Expr) (scope : Scope) : Prop where
  bl : BlkOk X.N X.env.scope scope (ownOf X.N vs)
  ow : (ownOf X.N vs).map (·.2) = vs
  tg_ : ∀ j ∈ tg, j ∈ vs
  it_ : PE X i (rdE G X.K (.var iv))
  ns : noSet i = true
  g_ : ∀ (s : Shared) (H : Hp) (C : Addr) (cl : List (Str × Addr)) (fp : List Addr), PG (X.blk s H scope (compEnvC scope cl C X.env) fp) t (gCp X.K tg)
  c_ : ∀ (s : Shared) (H : Hp) (C : Addr) (cl : List (Str × Addr)) (fp : List Addr), PTs (X.blk s H scope (compEnvC scope cl C X.env) fp) ifs (rdC G X.K cond)
  e_ : ∀ (s : Shared) (H : Hp) (C : Addr) (cl : List (Str × Addr)) (fp : List Addr), PE (X.blk s H scope (compEnvC scope cl C X.env) fp) e (rdE G X.K elt)
theorem s_compd {elt cond : IE} {iv : Nat} {vs tg : List Nat} {e t i : Expr} {ifs : List Expr} {scope : Scope} (g : Good G fs k X) (hq : cold fs = true) (P : CompQ G fs X elt iv cond vs tg e t i ifs scope) : PE X (.ListComp e [⟨t, i, ifs, 0⟩] scope pos) (rdE G X.K (.compd elt vs tg iv cond)) :=
  (pe_lock (pe_lc (g.calm hq) g.nd (pi_keys P.it_) P.bl P.g_ P.c_ P.e_ (fset P.ns))).weak fun σ H κ h => by rw [P.ow]; exact compd_read P.tg_ h
end
/-! the whole: by induction over the tree -/
structure Snd (G : Gam) (fs : List String) (k : Nat) (ie : IE) : Prop where
  e : ∀ X, Good G fs k X → ∀ e, chkE X.N fs ie X.env.scope e = true → PE X e (rdE G X.K ie)
  t : ∀ X, Good G fs k X → ∀ e, chkT X.N fs ie X.env.scope e = true → PT X e (rdT G X.K ie) ∧ ∀ op vs p, e = .BoolOp op vs p → PW X e (rdT G X.K ie)
  a : ∀ X, Good G fs k X → ∀ e, chkA X.N fs ie X.env.scope e = true → PA X e (rdA G X.K ie)
  c : ∀ X, Good G fs k X → ∀ e, chkC X.N fs ie X.env.scope e = true → PTs X e (rdC G X.K ie)
  o : ∀ X, Good G fs k X → ∀ e, chkO X.N fs ie X.env.scope e = true → PO X e (rdO G X.K ie)
  i : ∀ X, Good G fs k X → ∀ tg e, tgI ie tg = true → chkI X.N fs ie X.env.scope e = true → PI X tg e (rdI G X.K ie)
end DL

set_option Elab.async false
set_option linter.all false
set_option maxRecDepth 100000
set_option maxHeartbeats 8000000
namespace DL
open PySem L2 PySem.Spec PyProof.Rows
section
variable {G : Gam} {fs : List String} {k : Nat} {a b c t : IE}
abbrev SE (G : Gam) (fs : List String) (k : Nat) (ie : IE) : Prop := ∀ X, Good G fs k X → ∀ e, chkE X.N fs ie X.env.scope e = true → PE X e (rdE G X.K ie)
abbrev ST (G : Gam) (fs : List String) (k : Nat) (ie : IE) : Prop := ∀ X, Good G fs k X → ∀ e, chkT X.N fs ie X.env.scope e = true → PT X e (rdT G X.K ie) ∧ ∀ op vs p, e = .BoolOp op vs p → PW X e (rdT G X.K ie)
abbrev SA (G : Gam) (fs : List String) (k : Nat) (ie : IE) : Prop := ∀ X, Good G fs k X → ∀ e, chkA X.N fs ie X.env.scope e = true → PA X e (rdA G X.K ie)
theorem pt_only {X : Cx} {e : Expr} {T : TT} (h : PT X e T) (hn : ∀ op vs p, e ≠ .BoolOp op vs p) : PT X e T ∧ ∀ op vs p, e = .BoolOp op vs p → PW X e T := ⟨h, fun op vs p z => (hn op vs p z).elim⟩
theorem cmpB_ok {op : CmpOp} (h : cmpB op = true) : op ≠ .In ∧ op ≠ .NotIn := by
  simp only [cmpB, Bool.and_eq_true, decide_eq_true_eq] at h
  exact h
theorem e_var {i : Nat} : SE G fs k (.var i) := fun X g e h => by
  unfold chkE at h
  split at h
  · rename_i x q
    obtain ⟨p, rfl⟩ := asName_eq q
    simp only [Bool.and_eq_true, decide_eq_true_eq, Bool.not_eq_true'] at h
    exact s_var h.1.1.1 h.1.1.2 h.1.2 h.2
  · cases h
theorem e_int {n : Int} : SE G fs k (.int n) := fun X g e h => by
  unfold chkE at h
  split at h
  · rename_i x q
    obtain ⟨j, p, rfl⟩ := asConst_eq q
    simp only [decide_eq_true_eq] at h
    subst h
    exact pe_int.weak fun σ H κ ⟨A, ρ, M, Q, hs, hm, hw, hl⟩ => hl.int hm hw
  · cases h
theorem e_bl {n : Bool} : SE G fs k (.bl n) := fun X g e h => by
  unfold chkE at h
  split at h
  · rename_i x q
    obtain ⟨j, p, rfl⟩ := asConst_eq q
    simp only [decide_eq_true_eq] at h
    subst h
    exact pe_bl.weak fun σ H κ ⟨A, ρ, M, Q, hs, hm, hw, hl⟩ => hl.bl hm hw
  · cases h
theorem e_str {n : Str} : SE G fs k (.str n) := fun X g e h => by
  unfold chkE at h
  split at h
  · rename_i x q
    obtain ⟨j, p, rfl⟩ := asConst_eq q
    simp only [decide_eq_true_eq] at h
    subst h
    exact pe_str.weak fun σ H κ ⟨A, ρ, M, Q, hs, hm, hw, hl⟩ => hl.now hm (.str _) hw
  · cases h
theorem e_non : SE G fs k .non := fun X g e h => by
  unfold chkE at h
  split at h
  · rename_i q
    obtain ⟨j, p, rfl⟩ := asConst_eq q
    exact pe_non.weak fun σ H κ ⟨A, ρ, M, Q, hs, hm, hw, hl⟩ => hl.now hm .non hw
  · cases h
theorem e_bin {op : Operator} (ha : SE G fs k a) (hb : SE G fs k b) : SE G fs k (.bin op a b) := fun X g e h => by
  unfold chkE at h
  split at h
  · rename_i op' x y q
    obtain ⟨p, rfl⟩ := asBin_eq q
    simp only [Bool.and_eq_true, decide_eq_true_eq] at h
    obtain ⟨⟨rfl, h1⟩, h2⟩ := h
    exact s_bin (ha X g x h1) (hb X g y h2)
  · cases h
theorem e_neg (ha : SE G fs k a) : SE G fs k (.neg a) := fun X g e h => by
  unfold chkE at h
  split at h
  · rename_i x q
    obtain ⟨p, rfl⟩ := asUn_eq q
    exact s_neg (ha X g x h)
  · cases h
theorem e_not (ha : SE G fs k a) : SE G fs k (.not a) := fun X g e h => by
  unfold chkE at h
  split at h
  · rename_i x q
    obtain ⟨p, rfl⟩ := asUn_eq q
    exact s_not (ha X g x h)
  · cases h
theorem e_and (ha : SE G fs k a) (hb : SE G fs k b) : SE G fs k (.and a b) := fun X g e h => by
  unfold chkE at h
  split at h
  · rename_i x y r p q
    cases asBool_eq q
    simp only [Bool.and_eq_true] at h
    exact s_and (ha X g x h.1) (hb X g _ h.2)
  · cases h
theorem e_or (ha : SE G fs k a) (hb : SE G fs k b) : SE G fs k (.or a b) := fun X g e h => by
  unfold chkE at h
  split at h
  · rename_i x y r p q
    cases asBool_eq q
    simp only [Bool.and_eq_true] at h
    exact s_or (ha X g x h.1) (hb X g _ h.2)
  · cases h
theorem e_one (ha : SE G fs k a) : SE G fs k (.one a) := fun X g e h => by
  unfold chkE at h
  split at h
  · rename_i op x p q
    cases asBool_eq q
    exact s_one (ha X g x h)
  · cases h
theorem e_cmp {op : CmpOp} (ha : SE G fs k a) (hb : SE G fs k b) : SE G fs k (.cmp op a b) := fun X g e h => by
  unfold chkE at h
  split at h
  · rename_i x op' y q
    obtain ⟨p, rfl⟩ := asCmp_eq q
    simp only [Bool.and_eq_true, decide_eq_true_eq] at h
    obtain ⟨⟨⟨rfl, h1⟩, h3⟩, h4⟩ := h
    exact s_cmp g (by simpa [cmpM] using h1) (ha X g x h3) (hb X g y h4)
  · cases h
theorem e_chn {op op' : CmpOp} (ha : SE G fs k a) (hb : SE G fs k b) (hc : SE G fs k c) : SE G fs k (.chn op op' a b c) := fun X g e h => by
  unfold chkE at h
  split at h
  · rename_i x o1 o2 y z q
    obtain ⟨p, rfl⟩ := asCmp_eq q
    simp only [Bool.and_eq_true, decide_eq_true_eq] at h
    obtain ⟨⟨⟨⟨⟨⟨rfl, rfl⟩, h1⟩, h2⟩, h5⟩, h6⟩, h7⟩ := h
    exact s_chn g (cmpB_ok h1).1 (cmpB_ok h1).2 (cmpB_ok h2).1 (cmpB_ok h2).2 (ha X g x h5) (hb X g y h6) (hc X g z h7)
  · cases h
theorem e_ch3 {p1 p2 p3 : CmpOp} {d : IE} (ha : SE G fs k a) (hb : SE G fs k b) (hc : SE G fs k c) (hd : SE G fs k d) : SE G fs k (.ch3 p1 p2 p3 a b c d) := fun X g e h => by
  unfold chkE at h
  split at h
  · rename_i x o1 o2 o3 y z u q
    obtain ⟨p, rfl⟩ := asCmp_eq q
    simp only [Bool.and_eq_true, decide_eq_true_eq] at h
    obtain ⟨⟨⟨⟨⟨⟨⟨⟨⟨rfl, rfl⟩, rfl⟩, h1⟩, h2⟩, h3⟩, h5⟩, h6⟩, h7⟩, h8⟩ := h
    exact s_ch3 g (cmpB_ok h1).1 (cmpB_ok h1).2 (cmpB_ok h2).1 (cmpB_ok h2).2 (cmpB_ok h3).1 (cmpB_ok h3).2 (ha X g x h5) (hb X g y h6) (hc X g z h7) (hd X g u h8)
  · cases h
theorem e_ite (ht : ST G fs k t) (ha : SE G fs k a) (hb : SE G fs k b) : SE G fs k (.ite t a b) := fun X g e h => by
  unfold chkE at h
  split at h
  · rename_i z x y q
    obtain ⟨p, rfl⟩ := asIfE_eq q
    simp only [Bool.and_eq_true] at h
    exact s_ite (ht X g z h.1.1).1 (ha X g x h.1.2) (hb X g y h.2)
  · cases h
theorem e_tup (ha : SA G fs k a) : SE G fs k (.tup a) := fun X g e h => by
  unfold chkE at h
  split at h
  · rename_i es q
    obtain ⟨n, p, rfl⟩ := asTup_eq q
    exact s_tup (ha X g es h)
  · cases h
theorem e_lst (ha : SA G fs k a) : SE G fs k (.lst a) := fun X g e h => by
  unfold chkE at h
  split at h
  · rename_i es q
    obtain ⟨p, rfl⟩ := asLst_eq q
    exact s_lst (ha X g es h)
  · cases h
theorem e_ix (ha : SE G fs k a) (hb : SE G fs k b) : SE G fs k (.ix a b) := fun X g e h => by
  unfold chkE at h
  split at h
  · rename_i x y q
    obtain ⟨p, rfl⟩ := asSub_eq q
    simp only [Bool.and_eq_true] at h
    exact s_ix (by have := g.un; omega) h.1.1 (ha X g x h.1.2) (hb X g y h.2)
  · cases h
theorem e_dnew : SE G fs k .dnew := fun X g e h => by
  unfold chkE at h
  unfold isDct at h
  split at h
  · exact s_dnew
  · cases h
theorem e_sl (ha : SE G fs k a) (hb : ∀ X, Good G fs k X → ∀ e, chkO X.N fs b X.env.scope e = true → PO X e (rdO G X.K b)) (hc : ∀ X, Good G fs k X → ∀ e, chkO X.N fs c X.env.scope e = true → PO X e (rdO G X.K c)) : SE G fs k (.sl a b c) := fun X g e h => by
  unfold chkE at h
  split at h
  · rename_i x y q
    obtain ⟨p, rfl⟩ := asSub_eq q
    split at h
    · rename_i l u q2
      obtain ⟨p2, rfl⟩ := asSlice_eq q2
      simp only [Bool.and_eq_true] at h
      exact s_sl (ha X g x h.1.1) (hb X g l h.1.2) (hc X g u h.2)
    · cases h
  · cases h
theorem revB_ok {s : Option Expr × Option Expr × Option Expr} (h : revB s = true) : ∃ n p1 p2, s = (none, none, some (.UnaryOp .USub (.Constant (.int 1) n p1) p2)) := by
  unfold revB at h
  split at h
  · split at h
    · rename_i c q
      obtain ⟨p2, rfl⟩ := asUn_eq q
      split at h
      · rename_i m q2
        obtain ⟨j, p1, rfl⟩ := asConst_eq q2
        simp only [decide_eq_true_eq] at h
        subst h
        exact ⟨_, _, _, rfl⟩
      · cases h
    · cases h
  · cases h
theorem e_rev (ha : SE G fs k a) : SE G fs k (.rev a) := fun X g e h => by
  unfold chkE at h
  split at h
  · rename_i x y q
    obtain ⟨p, rfl⟩ := asSub_eq q
    split at h
    · rename_i s q2
      simp only [Bool.and_eq_true] at h
      obtain ⟨n, p1, p2, rfl⟩ := revB_ok h.1
      obtain ⟨p3, rfl⟩ := asSlice_eq q2
      exact s_rev (ha X g x h.2)
    · cases h
  · cases h
theorem sl2B_ok {s : Option Expr × Option Expr × Option Expr} (h : sl2B s = true) : ∃ n p1, s = (none, none, some (.Constant (.int 2) n p1)) := by
  unfold sl2B at h
  split at h
  · split at h
    · rename_i m q2
      obtain ⟨j, p1, rfl⟩ := asConst_eq q2
      simp only [decide_eq_true_eq] at h
      subst h
      exact ⟨_, _, rfl⟩
    · cases h
  · cases h
theorem bk1B_ok {s : Option Expr × Option Expr × Option Expr} (h : bk1B s = true) : ∃ n0 p0 n p1 p2, s = (none, some (.Constant (.int 0) n0 p0), some (.UnaryOp .USub (.Constant (.int 1) n p1) p2)) := by
  unfold bk1B at h
  split at h
  · split at h
    · rename_i z q0
      obtain ⟨j0, p0, rfl⟩ := asConst_eq q0
      simp only [Bool.and_eq_true, decide_eq_true_eq] at h
      obtain ⟨rfl, h⟩ := h
      split at h
      · rename_i c q
        obtain ⟨p2, rfl⟩ := asUn_eq q
        split at h
        · rename_i m q2
          obtain ⟨j, p1, rfl⟩ := asConst_eq q2
          simp only [decide_eq_true_eq] at h
          subst h
          exact ⟨_, _, _, _, _, rfl⟩
        · cases h
      · cases h
    · cases h
  · cases h
theorem e_sl2 (ha : SE G fs k a) : SE G fs k (.sl2 a) := fun X g e h => by
  unfold chkE at h
  split at h
  · rename_i x y q
    obtain ⟨p, rfl⟩ := asSub_eq q
    split at h
    · rename_i s q2
      simp only [Bool.and_eq_true] at h
      obtain ⟨n, p1, rfl⟩ := sl2B_ok h.1
      obtain ⟨p3, rfl⟩ := asSlice_eq q2
      exact s_sl2 (ha X g x h.2)
    · cases h
  · cases h
theorem e_bk1 (ha : SE G fs k a) : SE G fs k (.bk1 a) := fun X g e h => by
  unfold chkE at h
  split at h
  · rename_i x y q
    obtain ⟨p, rfl⟩ := asSub_eq q
    split at h
    · rename_i s q2
      simp only [Bool.and_eq_true] at h
      obtain ⟨n0, p0, n, p1, p2, rfl⟩ := bk1B_ok h.1
      obtain ⟨p3, rfl⟩ := asSlice_eq q2
      exact s_bk1 (ha X g x h.2)
    · cases h
  · cases h
theorem cl_len {T : List String} {sc : Scope} {es : List Expr} (h : tyNameB sc T es = true) (h2 : es.length ≤ 1000) : T.length ≤ sizeLine := by rw [tys_len h]; exact Nat.le_trans h2 (by decide)
theorem e_isi {T : List String} (ha : SE G fs k a) : SE G fs k (.isi a T) := fun X g e h => by
  unfold chkE at h
  split at h
  · rename_i f x c p q
    cases asCall_eq q
    split at h
    · rename_i n q2
      obtain ⟨p2, rfl⟩ := asName_eq q2
      simp only [Bool.and_eq_true, decide_eq_true_eq] at h
      obtain ⟨⟨⟨⟨rfl, h1⟩, h4⟩, h3⟩, h5⟩ := h
      unfold isiT at h3
      split at h3
      · split at h3
        · rename_i T x' q3
          obtain ⟨p3, rfl⟩ := asName_eq q3
          simp only [Bool.and_eq_true, decide_eq_true_eq, List.contains_iff_mem] at h3
          obtain ⟨⟨rfl, h6⟩, h7⟩ := h3
          exact s_isi g h1 h6 h7 h4 (ha X g x h5)
        · cases h3
      · split at h3
        · rename_i es q3
          obtain ⟨n3, p3, rfl⟩ := asTup_eq q3
          simp only [Bool.and_eq_true, decide_eq_true_eq] at h3
          exact s_isiT g h1 h3.1 (cl_len h3.1 h3.2) h4 (ha X g x h5)
        · cases h3
    · cases h
  · cases h
theorem e_blt {f : BF} (ha : SA G fs k a) : SE G fs k (.blt f a) := fun X g e h => by
  unfold chkE at h
  split at h
  · rename_i f' es p q
    cases asCall_eq q
    split at h
    · rename_i n q2
      obtain ⟨p2, rfl⟩ := asName_eq q2
      simp only [Bool.and_eq_true, decide_eq_true_eq, Bool.not_eq_true'] at h
      obtain ⟨⟨⟨⟨h0, rfl⟩, h1⟩, hq⟩, h2⟩ := h
      exact s_blt g (fun z => by subst z; cases h0) hq h1 h2 (ha X g es h2)
    · cases h
  · cases h
theorem e_lzip (ha : SE G fs k a) (hb : SE G fs k b) : SE G fs k (.lzip a b) := fun X g e h => by
  unfold chkE at h
  split at h
  · rename_i f' y p q
    cases asCall_eq q
    split at h
    · rename_i n q2
      obtain ⟨p2, rfl⟩ := asName_eq q2
      split at h
      · rename_i f2 z u p3 q3
        cases asCall_eq q3
        split at h
        · rename_i n2 q4
          obtain ⟨p4, rfl⟩ := asName_eq q4
          simp only [Bool.and_eq_true, decide_eq_true_eq] at h
          obtain ⟨⟨⟨⟨⟨⟨⟨⟨rfl, rfl⟩, h1⟩, h2⟩, hq⟩, h3⟩, h4⟩, h5⟩, h6⟩ := h
          exact s_lzip g hq h1 h2 h3 h4 (ha X g z h5) (hb X g u h6)
        · cases h
      · cases h
    · cases h
  · cases h
theorem e_srt (ha : SE G fs k a) : SE G fs k (.srt a) := fun X g e h => by
  unfold chkE at h
  split at h
  · rename_i f' y p q
    cases asCall_eq q
    split at h
    · rename_i n q2
      obtain ⟨p2, rfl⟩ := asName_eq q2
      split at h
      · rename_i f2 z p3 q3
        cases asCall_eq q3
        split at h
        · rename_i n2 q4
          obtain ⟨p4, rfl⟩ := asName_eq q4
          simp only [Bool.and_eq_true, decide_eq_true_eq] at h
          obtain ⟨⟨⟨⟨⟨⟨rfl, rfl⟩, h1⟩, h2⟩, hq⟩, h3⟩, h4⟩ := h
          exact s_srt g hq h1 h2 h3 (ha X g z h4)
        · cases h
      · cases h
    · cases h
  · cases h
theorem mth_ok {X : Cx} {m : MF} (hu : X.A.units + 65 < cLine) (h : (m == .append || m == .pop || m == .extend || m == .insert || m == .index || m == .count || m == .reverse) = true) : ∃ id, Slot "list" (Str.ofString (mfName m)) id ∧ typeOf (.builtin id) = pure (.type "method_descriptor") ∧ MtR X id (rM X.K (mfD m)) := by
  cases m with
  | append => exact ⟨_, PySem.F.slot_list_append, PySem.F.type_list_append, mf_append⟩
  | pop => exact ⟨_, PySem.F.slot_list_pop, PySem.F.type_list_pop, mf_pop⟩
  | extend => exact ⟨_, PySem.F.slot_list_extend, PySem.F.type_list_extend, mf_extend⟩
  | insert => exact ⟨_, PySem.F.slot_list_insert, PySem.F.type_list_insert, mf_insert⟩
  | index => exact ⟨_, PySem.F.slot_list_index, PySem.F.type_list_index, mf_index hu⟩
  | count => exact ⟨_, PySem.F.slot_list_count, PySem.F.type_list_count, mf_count hu⟩
  | reverse => exact ⟨_, PySem.F.slot_list_reverse, PySem.F.type_list_reverse, mf_reverse⟩
theorem e_mth {m : MF} (ho : SE G fs k a) (ha : SA G fs k b) : SE G fs k (.mth m a b) := fun X g e h => by
  unfold chkE at h
  split at h
  · rename_i f' es cp q
    cases asCall_eq q
    split at h
    · rename_i x n ap q2
      cases asAttr_eq q2
      simp only [Bool.and_eq_true, decide_eq_true_eq] at h
      obtain ⟨⟨⟨⟨⟨⟨rfl, h1⟩, h2⟩, h3⟩, h4⟩, h5⟩, h6⟩ := h
      obtain ⟨id, m1, m2, m3⟩ := mth_ok (X := X) g.un2 h4
      exact s_mth_of m1 m2 m3 h1 (by rw [h2]; exact beq_self_eq_true _) h3 h6 (ho X g x h5) (ha X g es h6)
    · cases h
  · cases h
theorem e_dsd (ho : SE G fs k a) (ha : SA G fs k b) : SE G fs k (.dsd a b) := fun X g e h => by
  unfold chkE at h
  split at h
  · rename_i f' es cp q
    cases asCall_eq q
    split at h
    · rename_i x n ap q2
      cases asAttr_eq q2
      simp only [Bool.and_eq_true, decide_eq_true_eq] at h
      obtain ⟨⟨⟨⟨⟨rfl, h1⟩, h2⟩, h3⟩, h5⟩, h6⟩ := h
      exact s_dsd (by have := g.un; omega) h1 (by rw [h2]; exact beq_self_eq_true _) h3 h6 (ho X g x h5) (ha X g es h6)
    · cases h
  · cases h
theorem e_con {f : String} : SE G fs k (.con f) := fun X g e h => by
  unfold chkE at h
  split at h
  · rename_i n q2
    obtain ⟨p2, rfl⟩ := asName_eq q2
    simp only [Bool.and_eq_true, decide_eq_true_eq, Bool.not_eq_true', List.contains_iff_mem] at h
    obtain ⟨⟨⟨⟨h0, hc⟩, rfl⟩, h1⟩, h2⟩ := h
    exact s_con g h0 (by simpa using hc) h1 h2
  · cases h
theorem e_call {f : String} (ha : SA G fs k a) : SE G fs k (.call f a) := fun X g e h => by
  unfold chkE at h
  split at h
  · rename_i f' es p q
    cases asCall_eq q
    split at h
    · rename_i n q2
      obtain ⟨p2, rfl⟩ := asName_eq q2
      simp only [Bool.and_eq_true, decide_eq_true_eq, Bool.not_eq_true', List.contains_iff_mem] at h
      obtain ⟨⟨⟨⟨⟨⟨⟨h0, hn⟩, hq⟩, hp⟩, rfl⟩, h1⟩, h2⟩, h3⟩ := h
      exact s_call g hq hp h0 hn h1 h2 h3 (ha X g es h3)
    · cases h
  · cases h
theorem p_comp {elt it cond : IE} {vs tg : List Nat} (he : SE G fs k elt) (hi : ∀ X, Good G fs k X → ∀ tg e, tgI it tg = true → chkI X.N fs it X.env.scope e = true → PI X tg e (rdI G X.K it))
    (hc : ∀ X, Good G fs k X → ∀ e, chkC X.N fs cond X.env.scope e = true → PTs X e (rdC G X.K cond)) {X : Cx} (g : Good G fs k X) {e t i : Expr} {ifs : List Expr} {scope : Scope}
    (h : (cold fs && blkB X.N X.env.scope scope vs tg t i && (tgI it t && chkI X.N fs it X.env.scope i) && chkC X.N fs cond (relS scope X.env.scope) ifs && chkE X.N fs elt (relS scope X.env.scope) e) = true) : CompP G fs X elt it cond vs tg e t i ifs scope := by
  simp only [blkB, Bool.and_eq_true, decide_eq_true_eq] at h
  obtain ⟨⟨⟨⟨hq, ⟨⟨h1, h2⟩, h3⟩, h4⟩, h5⟩, h6⟩, h7⟩ := h
  exact ⟨blkOk_by h1, h2, chkTg_in h3, hi X g t i h5.1 h5.2, h4, fun s H C cl fp => g_cp (g.calm hq) g.nd (fun x hx => blk_loc hx) h3,
    fun s H C cl fp => hc _ (g.blk s H scope _ fp) ifs h6, fun s H C cl fp => he _ (g.blk s H scope _ fp) e h7⟩
theorem e_comp {elt it cond : IE} {vs tg : List Nat} (he : SE G fs k elt) (hi : ∀ X, Good G fs k X → ∀ tg e, tgI it tg = true → chkI X.N fs it X.env.scope e = true → PI X tg e (rdI G X.K it))
    (hc : ∀ X, Good G fs k X → ∀ e, chkC X.N fs cond X.env.scope e = true → PTs X e (rdC G X.K cond)) : SE G fs k (.comp elt vs tg it cond) := fun X g e h => by
  unfold chkE at h
  split at h
  · rename_i el t i ifs scope q
    obtain ⟨p, rfl⟩ := asComp_eq q
    exact s_comp g (by simp only [Bool.and_eq_true] at h; exact h.1.1.1.1) (p_comp he hi hc g h)
  · cases h
theorem p_compd {elt cond : IE} {iv : Nat} {vs tg : List Nat} (he : SE G fs k elt) (hv : SE G fs k (.var iv))
    (hc : ∀ X, Good G fs k X → ∀ e, chkC X.N fs cond X.env.scope e = true → PTs X e (rdC G X.K cond)) {X : Cx} (g : Good G fs k X) {e t i : Expr} {ifs : List Expr} {scope : Scope}
    (h : (cold fs && blkB X.N X.env.scope scope vs tg t i && varB X.N iv X.env.scope i && chkC X.N fs cond (relS scope X.env.scope) ifs && chkE X.N fs elt (relS scope X.env.scope) e) = true) : CompQ G fs X elt iv cond vs tg e t i ifs scope := by
  simp only [blkB, Bool.and_eq_true, decide_eq_true_eq] at h
  obtain ⟨⟨⟨⟨hq, ⟨⟨h1, h2⟩, h3⟩, h4⟩, h5⟩, h6⟩, h7⟩ := h
  exact ⟨blkOk_by h1, h2, chkTg_in h3, hv X g i (by unfold chkE; exact h5), h4, fun s H C cl fp => g_cp (g.calm hq) g.nd (fun x hx => blk_loc hx) h3,
    fun s H C cl fp => hc _ (g.blk s H scope _ fp) ifs h6, fun s H C cl fp => he _ (g.blk s H scope _ fp) e h7⟩
theorem e_compd {elt cond : IE} {iv : Nat} {vs tg : List Nat} (he : SE G fs k elt) (hv : SE G fs k (.var iv))
    (hc : ∀ X, Good G fs k X → ∀ e, chkC X.N fs cond X.env.scope e = true → PTs X e (rdC G X.K cond)) : SE G fs k (.compd elt vs tg iv cond) := fun X g e h => by
  unfold chkE at h
  split at h
  · rename_i el t i ifs scope q
    obtain ⟨p, rfl⟩ := asComp_eq q
    exact s_compd g (by simp only [Bool.and_eq_true] at h; exact h.1.1.1.1) (p_compd he hv hc g h)
  · cases h
theorem e_mxd (ha : SE G fs k a) : SE G fs k (.mxd a) := fun X g e h => by
  unfold chkE at h
  split at h
  · rename_i f' y kws p q
    cases asCallK_eq q
    split at h
    · rename_i n q2
      obtain ⟨p2, rfl⟩ := asName_eq q2
      simp only [Bool.and_eq_true, decide_eq_true_eq] at h
      obtain ⟨⟨⟨⟨⟨rfl, h1⟩, hq⟩, h2⟩, h3⟩, h4⟩ := h
      obtain ⟨j, p3, p4, rfl⟩ := dflB_eq h3
      exact s_mxd g hq h1 h2 (ha X g y h4)
    · cases h
  · cases h
theorem e_calh {f : String} (ha : SA G fs k a) : SE G fs k (.calh f a) := fun X g e h => by
  unfold chkE at h
  split at h
  · rename_i f' es p q
    cases asCall_eq q
    split at h
    · rename_i n q2
      obtain ⟨p2, rfl⟩ := asName_eq q2
      simp only [Bool.and_eq_true, List.contains_iff_mem] at h
      obtain ⟨⟨⟨⟨h0, _⟩, h1⟩, h2⟩, h3⟩ := h
      split at h1
      · rename_i r hr
        simp only [Bool.and_eq_true, decide_eq_true_eq, Bool.not_eq_true'] at h1
        obtain ⟨rfl, h4⟩ := h1
        exact s_calh g hr h0 h2 h4 h3 (ha X g es h3)
      · cases h1
    · cases h
  · cases h
theorem e_xcl {f : String} (ha : SA G fs k a) : SE G fs k (.xcl f a) := fun X g e h => by
  unfold chkE at h
  split at h
  · rename_i f' es p q
    cases asCall_eq q
    split at h
    · rename_i n q2
      obtain ⟨p2, rfl⟩ := asName_eq q2
      simp only [Bool.and_eq_true, List.contains_iff_mem] at h
      obtain ⟨⟨⟨⟨hq, h0⟩, h1⟩, h2⟩, h3⟩ := h
      split at h1
      · rename_i r hr
        simp only [Bool.and_eq_true, decide_eq_true_eq, Bool.not_eq_true'] at h1
        obtain ⟨rfl, h4⟩ := h1
        exact s_xcl g hq hr h0 h2 h4 h3 (ha X g es h3)
      · cases h1
    · cases h
  · cases h
theorem e_isx {T : List String} (ha : SE G fs k a) : SE G fs k (.isx a T) := fun X g e h => by
  unfold chkE at h
  split at h
  · rename_i f x c p q
    cases asCall_eq q
    split at h
    · rename_i n q2
      obtain ⟨p2, rfl⟩ := asName_eq q2
      simp only [Bool.and_eq_true, decide_eq_true_eq] at h
      obtain ⟨⟨⟨⟨rfl, h1⟩, h4⟩, h3⟩, h5⟩ := h
      unfold isxT at h3
      split at h3
      · split at h3
        · rename_i T x' q3
          obtain ⟨p3, rfl⟩ := asName_eq q3
          simp only [Bool.and_eq_true, decide_eq_true_eq] at h3
          obtain ⟨⟨⟨rfl, h6⟩, h7⟩, h8⟩ := h3
          exact s_isx1 g h1 h6 h7 (by simpa using h8) h4 (ha X g x h5)
        · cases h3
      · split at h3
        · rename_i es q3
          obtain ⟨n3, p3, rfl⟩ := asTup_eq q3
          simp only [Bool.and_eq_true, decide_eq_true_eq] at h3
          exact s_isxT g h1 h3.1 h3.2 h4 (ha X g x h5)
        · cases h3
    · cases h
  · cases h
theorem e_fld {n : String} (ha : SE G fs k a) : SE G fs k (.fld a n) := fun X g e h => by
  unfold chkE at h
  split at h
  · rename_i x m p q
    cases asAttr_eq q
    simp only [Bool.and_eq_true, decide_eq_true_eq] at h
    exact s_fld h.1.1 (base_of h.1.2) (ha X g x h.2)
  · cases h
/-! tests -/
theorem u_not (ha : ST G fs k a) : ST G fs k (.not a) := fun X g e h => by
  unfold chkT at h
  split at h
  · rename_i x q
    obtain ⟨p, rfl⟩ := asUn_eq q
    exact pt_only (t_not (ha X g x h).1) fun _ _ _ z => by cases z
  · cases h
theorem bool_pw {X : Cx} {op : BoolOp} {es : List Expr} {p : Pos} {T : TT} (h : PT X (.BoolOp op es p) T ∧ ∀ op' vs q, Expr.BoolOp op es p = .BoolOp op' vs q → PW X (.BoolOp op es p) T) : PW X (.BoolOp op es p) T := h.2 _ _ _ rfl
theorem u_and (ha : ST G fs k a) (hb : ST G fs k b) : ST G fs k (.and a b) := fun X g e h => by
  unfold chkT at h
  split at h
  · rename_i x y r p q
    cases asBool_eq q
    simp only [Bool.and_eq_true] at h
    have q := t_and (ha X g x h.1).1 (bool_pw (hb X g _ h.2))
    exact ⟨q.pt, fun _ _ _ _ => q⟩
  · cases h
theorem u_or (ha : ST G fs k a) (hb : ST G fs k b) : ST G fs k (.or a b) := fun X g e h => by
  unfold chkT at h
  split at h
  · rename_i x y r p q
    cases asBool_eq q
    simp only [Bool.and_eq_true] at h
    have q := t_or (ha X g x h.1).1 (bool_pw (hb X g _ h.2))
    exact ⟨q.pt, fun _ _ _ _ => q⟩
  · cases h
theorem u_one (ha : ST G fs k a) : ST G fs k (.one a) := fun X g e h => by
  unfold chkT at h
  split at h
  · rename_i op x p q
    cases asBool_eq q
    have q := t_one (op := op) (pos := p) (ha X g x h).1
    exact ⟨q.pt, fun _ _ _ _ => q⟩
  · cases h
theorem u_cmp {op : CmpOp} (ha : SE G fs k a) (hb : SE G fs k b) : ST G fs k (.cmp op a b) := fun X g e h => by
  unfold chkT at h
  split at h
  · rename_i x op' y q
    obtain ⟨p, rfl⟩ := asCmp_eq q
    simp only [Bool.and_eq_true, decide_eq_true_eq] at h
    obtain ⟨⟨⟨rfl, h1⟩, h3⟩, h4⟩ := h
    exact pt_only (t_cmp g (by simpa [cmpM] using h1) (ha X g x h3) (hb X g y h4)) fun _ _ _ z => by cases z
  · cases h
theorem u_chn {op op' : CmpOp} (ha : SE G fs k a) (hb : SE G fs k b) (hc : SE G fs k c) : ST G fs k (.chn op op' a b c) := fun X g e h => by
  unfold chkT at h
  split at h
  · rename_i x o1 o2 y z q
    obtain ⟨p, rfl⟩ := asCmp_eq q
    simp only [Bool.and_eq_true, decide_eq_true_eq] at h
    obtain ⟨⟨⟨⟨⟨⟨rfl, rfl⟩, h1⟩, h2⟩, h5⟩, h6⟩, h7⟩ := h
    exact pt_only (t_chn g (cmpB_ok h1).1 (cmpB_ok h1).2 (cmpB_ok h2).1 (cmpB_ok h2).2 (ha X g x h5) (hb X g y h6) (hc X g z h7)) fun _ _ _ z => by cases z
  · cases h
theorem u_ch3 {p1 p2 p3 : CmpOp} {d : IE} (ha : SE G fs k a) (hb : SE G fs k b) (hc : SE G fs k c) (hd : SE G fs k d) : ST G fs k (.ch3 p1 p2 p3 a b c d) := fun X g e h => by
  unfold chkT at h
  split at h
  · rename_i x o1 o2 o3 y z u q
    obtain ⟨p, rfl⟩ := asCmp_eq q
    simp only [Bool.and_eq_true, decide_eq_true_eq] at h
    obtain ⟨⟨⟨⟨⟨⟨⟨⟨⟨rfl, rfl⟩, rfl⟩, h1⟩, h2⟩, h3⟩, h5⟩, h6⟩, h7⟩, h8⟩ := h
    exact pt_only (t_ch3 g (cmpB_ok h1).1 (cmpB_ok h1).2 (cmpB_ok h2).1 (cmpB_ok h2).2 (cmpB_ok h3).1 (cmpB_ok h3).2 (ha X g x h5) (hb X g y h6) (hc X g z h7) (hd X g u h8)) fun _ _ _ z => by cases z
  · cases h
theorem wpT_var {i : Nat} {ρ : En} {M : Mem} {Q : Bool → Mem → Prop} (h : wpT G (.var i) ρ M Q) : wpE G (.var i) ρ M fun d M2 => ∃ c, d = .bl c ∧ Q c M2 := by
  have h' : onV (getV ρ i) fun d => ∃ c, d = .bl c ∧ Q c M := h
  exact h'
theorem chkT_E {N : List Str} {ie : IE} {sc : Scope} {e : Expr} (hi : (∃ i, ie = .var i) ∨ (∃ a T, ie = .isi a T) ∨ (∃ f a, ie = .blt f a) ∨ (∃ f a, ie = .call f a) ∨ (∃ a T, ie = .isx a T) ∨ (∃ f a, ie = .calh f a) ∨ ∃ a b, ie = .ix a b) (h : chkT N fs ie sc e = true) : chkE N fs ie sc e = true := by
  rcases hi with ⟨i, rfl⟩ | ⟨a, T, rfl⟩ | ⟨f, a, rfl⟩ | ⟨f, a, rfl⟩ | ⟨a, T, rfl⟩ | ⟨f, a, rfl⟩ | ⟨a, b, rfl⟩ <;> exact h
theorem u_var {i : Nat} : ST G fs k (.var i) := fun X g e h => by
  have h' := chkT_E (.inl ⟨_, rfl⟩) h
  unfold chkT at h
  split at h
  · rename_i x q
    obtain ⟨p, rfl⟩ := asName_eq q
    exact pt_only (t_val (e_var X g _ h') (fun _ => rfl) fun _ _ _ q => wpT_var q) fun _ _ _ z => by cases z
  · cases h
theorem u_isi {T : List String} (ha : SE G fs k a) : ST G fs k (.isi a T) := fun X g e h => by
  have h' := chkT_E (.inr (.inl ⟨_, _, rfl⟩)) h
  unfold chkT at h
  split at h
  · rename_i f x c p q
    cases asCall_eq q
    exact pt_only (t_val (e_isi ha X g _ h') (fun _ => rfl) fun ρ M Q q => q) fun _ _ _ z => by cases z
  · cases h
theorem u_blt {f : BF} (ha : SA G fs k a) : ST G fs k (.blt f a) := fun X g e h => by
  have h' := chkT_E (.inr (.inr (.inl ⟨_, _, rfl⟩))) h
  unfold chkT at h
  split at h
  · rename_i f' es p q
    cases asCall_eq q
    exact pt_only (t_val (e_blt ha X g _ h') (fun _ => rfl) fun ρ M Q q => q) fun _ _ _ z => by cases z
  · cases h
theorem u_call {f : String} (ha : SA G fs k a) : ST G fs k (.call f a) := fun X g e h => by
  have h' := chkT_E (.inr (.inr (.inr (.inl ⟨_, _, rfl⟩)))) h
  unfold chkT at h
  split at h
  · rename_i f' es p q
    cases asCall_eq q
    exact pt_only (t_val (e_call ha X g _ h') (fun _ => rfl) fun ρ M Q q => q) fun _ _ _ z => by cases z
  · cases h
theorem wpT_isxE {T : List String} {ρ : En} {M : Mem} {Q : Bool → Mem → Prop} (h : wpT G (.isx a T) ρ M Q) : wpE G (.isx a T) ρ M fun d M2 => ∃ c, d = .bl c ∧ Q c M2 := h
theorem u_isx {T : List String} (ha : SE G fs k a) : ST G fs k (.isx a T) := fun X g e h => by
  have h' := chkT_E (.inr (.inr (.inr (.inr (.inl ⟨_, _, rfl⟩))))) h
  unfold chkT at h
  split at h
  · rename_i f x c p q
    cases asCall_eq q
    exact pt_only (t_val (e_isx ha X g _ h') (fun _ => rfl) fun ρ M Q q => wpT_isxE q) fun _ _ _ z => by cases z
  · cases h
theorem u_calh {f : String} (ha : SA G fs k a) : ST G fs k (.calh f a) := fun X g e h => by
  have h' := chkT_E (.inr (.inr (.inr (.inr (.inr (.inl ⟨_, _, rfl⟩)))))) h
  unfold chkT at h
  split at h
  · rename_i f' es p q
    cases asCall_eq q
    exact pt_only (t_val (e_calh ha X g _ h') (fun _ => rfl) fun ρ M Q q => q) fun _ _ _ z => by cases z
  · cases h
theorem wpT_ixE {ρ : En} {M : Mem} {Q : Bool → Mem → Prop} (h : wpT G (.ix a b) ρ M Q) : wpE G (.ix a b) ρ M fun d M2 => ∃ c, d = .bl c ∧ Q c M2 := h
theorem u_ix (ha : SE G fs k a) (hb : SE G fs k b) : ST G fs k (.ix a b) := fun X g e h => by
  have h' := chkT_E (.inr (.inr (.inr (.inr (.inr (.inr ⟨_, _, rfl⟩)))))) h
  unfold chkT at h
  split at h
  · rename_i x y q
    obtain ⟨p, rfl⟩ := asSub_eq q
    exact pt_only (t_val (e_ix ha hb X g _ h') (fun _ => rfl) fun ρ M Q q => wpT_ixE q) fun _ _ _ z => by cases z
  · cases h
end
end DL

set_option Elab.async false
set_option linter.all false
set_option maxRecDepth 100000
set_option maxHeartbeats 8000000
namespace DL
open PySem L2 PySem.Spec PyProof.Rows
section
variable {G : Gam} {fs : List String} {k : Nat} {a b c t : IE}
theorem a_nil' : SA G fs k .nil := fun X g e h => by
  cases e with
  | nil => exact a_nil
  | cons _ _ => cases h
theorem a_cons' (ha : SE G fs k a) (hb : SA G fs k b) : SA G fs k (.cons a b) := fun X g e h => by
  cases e with
  | nil => cases h
  | cons e es =>
    simp only [chkA, Bool.and_eq_true] at h
    exact a_cons h.1.1 (ha X g e h.1.2) (hb X g es h.2)
theorem c_nil' : ∀ X, Good G fs k X → ∀ e, chkC X.N fs .nil X.env.scope e = true → PTs X e (rdC G X.K .nil) := fun X g e h => by
  cases e with
  | nil => exact c_nil
  | cons _ _ => cases h
theorem c_cons' (ha : ST G fs k a) : ∀ X, Good G fs k X → ∀ e, chkC X.N fs (.cons a b) X.env.scope e = true → PTs X e (rdC G X.K (.cons a b)) := fun X g e h => by
  match e, h with
  | [e], h => exact c_one (ha X g e h).1
theorem o_nil' : ∀ X, Good G fs k X → ∀ e, chkO X.N fs .nil X.env.scope e = true → PO X e (rdO G X.K .nil) := fun X g e h => by
  cases e with
  | none => exact o_nil
  | some _ => cases h
theorem o_cons' (ha : SE G fs k a) : ∀ X, Good G fs k X → ∀ e, chkO X.N fs (.cons a b) X.env.scope e = true → PO X e (rdO G X.K (.cons a b)) := fun X g e h => by
  cases e with
  | none => cases h
  | some e => exact o_some (ha X g e h)
theorem i_cons' (ha : SE G fs k a) : ∀ X, Good G fs k X → ∀ tg e, tgI (.cons a b) tg = true → chkI X.N fs (.cons a b) X.env.scope e = true → PI X tg e (rdI G X.K (.cons a b)) := fun X g tg e _ h => i_val (ha X g e h)
theorem i_rng1' (ha : SE G fs k a) : ∀ X, Good G fs k X → ∀ tg e, tgI (.rng1 a) tg = true → chkI X.N fs (.rng1 a) X.env.scope e = true → PI X tg e (rdI G X.K (.rng1 a)) := fun X g tg e _ h => by
  unfold chkI at h
  split at h
  · rename_i f x p q
    cases asCall_eq q
    split at h
    · rename_i n q2
      obtain ⟨p2, rfl⟩ := asName_eq q2
      simp only [Bool.and_eq_true, decide_eq_true_eq] at h
      obtain ⟨⟨⟨rfl, h1⟩, h2⟩, h3⟩ := h
      exact i_rng1 g h1 h2 (ha X g x h3)
    · cases h
  · cases h
theorem i_rng2' (ha : SE G fs k a) (hb : SE G fs k b) : ∀ X, Good G fs k X → ∀ tg e, tgI (.rng2 a b) tg = true → chkI X.N fs (.rng2 a b) X.env.scope e = true → PI X tg e (rdI G X.K (.rng2 a b)) := fun X g tg e _ h => by
  unfold chkI at h
  split at h
  · rename_i f x y p q
    cases asCall_eq q
    split at h
    · rename_i n q2
      obtain ⟨p2, rfl⟩ := asName_eq q2
      simp only [Bool.and_eq_true, decide_eq_true_eq] at h
      obtain ⟨⟨⟨⟨⟨rfl, h1⟩, h2⟩, h3⟩, h4⟩, h5⟩ := h
      exact i_rng2 g h1 h2 h3 (ha X g x h4) (hb X g y h5)
    · cases h
  · cases h
theorem isTup_eq {t : Expr} (h : isTup t = true) : ∃ es n p, t = .Tuple es n p := by cases t <;> first | (cases h; done) | exact ⟨_, _, _, rfl⟩
theorem i_enum' (ha : SE G fs k a) : ∀ X, Good G fs k X → ∀ tg e, tgI (.enum a) tg = true → chkI X.N fs (.enum a) X.env.scope e = true → PI X tg e (rdI G X.K (.enum a)) := fun X g tg e ht h => by
  obtain ⟨es, n, p0, rfl⟩ := isTup_eq ht
  unfold chkI at h
  split at h
  · rename_i f x p q
    cases asCall_eq q
    split at h
    · rename_i n q2
      obtain ⟨p2, rfl⟩ := asName_eq q2
      simp only [Bool.and_eq_true, decide_eq_true_eq] at h
      obtain ⟨⟨⟨rfl, h1⟩, h2⟩, h3⟩ := h
      exact i_enum g h1 h2 (ha X g x h3)
    · cases h
  · cases h
theorem i_zip' (ha : SE G fs k a) (hb : SE G fs k b) : ∀ X, Good G fs k X → ∀ tg e, tgI (.zip a b) tg = true → chkI X.N fs (.zip a b) X.env.scope e = true → PI X tg e (rdI G X.K (.zip a b)) := fun X g tg e ht h => by
  obtain ⟨es, n, p0, rfl⟩ := isTup_eq ht
  unfold chkI at h
  split at h
  · rename_i f x y p q
    cases asCall_eq q
    split at h
    · rename_i n q2
      obtain ⟨p2, rfl⟩ := asName_eq q2
      simp only [Bool.and_eq_true, decide_eq_true_eq] at h
      obtain ⟨⟨⟨⟨⟨rfl, h1⟩, h2⟩, h3⟩, h4⟩, h5⟩ := h
      exact i_zip g h1 h2 h3 (ha X g x h4) (hb X g y h5)
    · cases h
  · cases h
theorem snd (G : Gam) (fs : List String) (k : Nat) (ie : IE) : Snd G fs k ie := by
  induction ie with
  | var i => exact ⟨e_var, u_var, fun _ _ _ h => (by cases h), fun _ _ _ h => (by cases h), fun _ _ _ h => (by cases h), fun _ _ _ _ _ h => (by cases h)⟩
  | con x => exact ⟨e_con, fun _ _ _ h => (by cases h), fun _ _ _ h => (by cases h), fun _ _ _ h => (by cases h), fun _ _ _ h => (by cases h), fun _ _ _ _ _ h => (by cases h)⟩
  | int n => exact ⟨e_int, fun _ _ _ h => (by cases h), fun _ _ _ h => (by cases h), fun _ _ _ h => (by cases h), fun _ _ _ h => (by cases h), fun _ _ _ _ _ h => (by cases h)⟩
  | bl n => exact ⟨e_bl, fun _ _ _ h => (by cases h), fun _ _ _ h => (by cases h), fun _ _ _ h => (by cases h), fun _ _ _ h => (by cases h), fun _ _ _ _ _ h => (by cases h)⟩
  | str n => exact ⟨e_str, fun _ _ _ h => (by cases h), fun _ _ _ h => (by cases h), fun _ _ _ h => (by cases h), fun _ _ _ h => (by cases h), fun _ _ _ _ _ h => (by cases h)⟩
  | non => exact ⟨e_non, fun _ _ _ h => (by cases h), fun _ _ _ h => (by cases h), fun _ _ _ h => (by cases h), fun _ _ _ h => (by cases h), fun _ _ _ _ _ h => (by cases h)⟩
  | bin op a b ha hb => exact ⟨e_bin ha.e hb.e, fun _ _ _ h => (by cases h), fun _ _ _ h => (by cases h), fun _ _ _ h => (by cases h), fun _ _ _ h => (by cases h), fun _ _ _ _ _ h => (by cases h)⟩
  | neg a ha => exact ⟨e_neg ha.e, fun _ _ _ h => (by cases h), fun _ _ _ h => (by cases h), fun _ _ _ h => (by cases h), fun _ _ _ h => (by cases h), fun _ _ _ _ _ h => (by cases h)⟩
  | not a ha => exact ⟨e_not ha.e, u_not ha.t, fun _ _ _ h => (by cases h), fun _ _ _ h => (by cases h), fun _ _ _ h => (by cases h), fun _ _ _ _ _ h => (by cases h)⟩
  | and a b ha hb => exact ⟨e_and ha.e hb.e, u_and ha.t hb.t, fun _ _ _ h => (by cases h), fun _ _ _ h => (by cases h), fun _ _ _ h => (by cases h), fun _ _ _ _ _ h => (by cases h)⟩
  | or a b ha hb => exact ⟨e_or ha.e hb.e, u_or ha.t hb.t, fun _ _ _ h => (by cases h), fun _ _ _ h => (by cases h), fun _ _ _ h => (by cases h), fun _ _ _ _ _ h => (by cases h)⟩
  | one a ha => exact ⟨e_one ha.e, u_one ha.t, fun _ _ _ h => (by cases h), fun _ _ _ h => (by cases h), fun _ _ _ h => (by cases h), fun _ _ _ _ _ h => (by cases h)⟩
  | cmp op a b ha hb => exact ⟨e_cmp ha.e hb.e, u_cmp ha.e hb.e, fun _ _ _ h => (by cases h), fun _ _ _ h => (by cases h), fun _ _ _ h => (by cases h), fun _ _ _ _ _ h => (by cases h)⟩
  | chn o1 o2 a b c ha hb hc => exact ⟨e_chn ha.e hb.e hc.e, u_chn ha.e hb.e hc.e, fun _ _ _ h => (by cases h), fun _ _ _ h => (by cases h), fun _ _ _ h => (by cases h), fun _ _ _ _ _ h => (by cases h)⟩
  | ch3 o1 o2 o3 a b c d ha hb hc hd => exact ⟨e_ch3 ha.e hb.e hc.e hd.e, u_ch3 ha.e hb.e hc.e hd.e, fun _ _ _ h => (by cases h), fun _ _ _ h => (by cases h), fun _ _ _ h => (by cases h), fun _ _ _ _ _ h => (by cases h)⟩
  | ite t a b ht ha hb => exact ⟨e_ite ht.t ha.e hb.e, fun _ _ _ h => (by cases h), fun _ _ _ h => (by cases h), fun _ _ _ h => (by cases h), fun _ _ _ h => (by cases h), fun _ _ _ _ _ h => (by cases h)⟩
  | tup a ha => exact ⟨e_tup ha.a, fun _ _ _ h => (by cases h), fun _ _ _ h => (by cases h), fun _ _ _ h => (by cases h), fun _ _ _ h => (by cases h), fun _ _ _ _ _ h => (by cases h)⟩
  | lst a ha => exact ⟨e_lst ha.a, fun _ _ _ h => (by cases h), fun _ _ _ h => (by cases h), fun _ _ _ h => (by cases h), fun _ _ _ h => (by cases h), fun _ _ _ _ _ h => (by cases h)⟩
  | nil => exact ⟨fun _ _ _ h => (by cases h), fun _ _ _ h => (by cases h), a_nil', c_nil', o_nil', fun _ _ _ _ _ h => (by cases h)⟩
  | cons a r ha hr => exact ⟨fun _ _ _ h => (by cases h), fun _ _ _ h => (by cases h), a_cons' ha.e hr.a, c_cons' ha.t, o_cons' ha.e, i_cons' ha.e⟩
  | ix a b ha hb => exact ⟨e_ix ha.e hb.e, u_ix ha.e hb.e, fun _ _ _ h => (by cases h), fun _ _ _ h => (by cases h), fun _ _ _ h => (by cases h), fun _ _ _ _ _ h => (by cases h)⟩
  | sl a b c ha hb hc => exact ⟨e_sl ha.e hb.o hc.o, fun _ _ _ h => (by cases h), fun _ _ _ h => (by cases h), fun _ _ _ h => (by cases h), fun _ _ _ h => (by cases h), fun _ _ _ _ _ h => (by cases h)⟩
  | rev a ha => exact ⟨e_rev ha.e, fun _ _ _ h => (by cases h), fun _ _ _ h => (by cases h), fun _ _ _ h => (by cases h), fun _ _ _ h => (by cases h), fun _ _ _ _ _ h => (by cases h)⟩
  | sl2 a ha => exact ⟨e_sl2 ha.e, fun _ _ _ h => (by cases h), fun _ _ _ h => (by cases h), fun _ _ _ h => (by cases h), fun _ _ _ h => (by cases h), fun _ _ _ _ _ h => (by cases h)⟩
  | bk1 a ha => exact ⟨e_bk1 ha.e, fun _ _ _ h => (by cases h), fun _ _ _ h => (by cases h), fun _ _ _ h => (by cases h), fun _ _ _ h => (by cases h), fun _ _ _ _ _ h => (by cases h)⟩
  | srt a ha => exact ⟨e_srt ha.e, fun _ _ _ h => (by cases h), fun _ _ _ h => (by cases h), fun _ _ _ h => (by cases h), fun _ _ _ h => (by cases h), fun _ _ _ _ _ h => (by cases h)⟩
  | lzip a b ha hb => exact ⟨e_lzip ha.e hb.e, fun _ _ _ h => (by cases h), fun _ _ _ h => (by cases h), fun _ _ _ h => (by cases h), fun _ _ _ h => (by cases h), fun _ _ _ _ _ h => (by cases h)⟩
  | isi a T ha => exact ⟨e_isi ha.e, u_isi ha.e, fun _ _ _ h => (by cases h), fun _ _ _ h => (by cases h), fun _ _ _ h => (by cases h), fun _ _ _ _ _ h => (by cases h)⟩
  | blt f a ha => exact ⟨e_blt ha.a, u_blt ha.a, fun _ _ _ h => (by cases h), fun _ _ _ h => (by cases h), fun _ _ _ h => (by cases h), fun _ _ _ _ _ h => (by cases h)⟩
  | mth m a b ha hb => exact ⟨e_mth ha.e hb.a, fun _ _ _ h => (by cases h), fun _ _ _ h => (by cases h), fun _ _ _ h => (by cases h), fun _ _ _ h => (by cases h), fun _ _ _ _ _ h => (by cases h)⟩
  | call f a ha => exact ⟨e_call ha.a, u_call ha.a, fun _ _ _ h => (by cases h), fun _ _ _ h => (by cases h), fun _ _ _ h => (by cases h), fun _ _ _ _ _ h => (by cases h)⟩
  | comp elt vs tg it cond he hi hc => exact ⟨e_comp he.e hi.i hc.c, fun _ _ _ h => (by cases h), fun _ _ _ h => (by cases h), fun _ _ _ h => (by cases h), fun _ _ _ h => (by cases h), fun _ _ _ _ _ h => (by cases h)⟩
  | mxd a ha => exact ⟨e_mxd ha.e, fun _ _ _ h => (by cases h), fun _ _ _ h => (by cases h), fun _ _ _ h => (by cases h), fun _ _ _ h => (by cases h), fun _ _ _ _ _ h => (by cases h)⟩
  | compd elt vs tg i cond he hc => exact ⟨e_compd he.e e_var hc.c, fun _ _ _ h => (by cases h), fun _ _ _ h => (by cases h), fun _ _ _ h => (by cases h), fun _ _ _ h => (by cases h), fun _ _ _ _ _ h => (by cases h)⟩
  | rng1 a ha => exact ⟨fun _ _ _ h => (by cases h), fun _ _ _ h => (by cases h), fun _ _ _ h => (by cases h), fun _ _ _ h => (by cases h), fun _ _ _ h => (by cases h), i_rng1' ha.e⟩
  | rng2 a b ha hb => exact ⟨fun _ _ _ h => (by cases h), fun _ _ _ h => (by cases h), fun _ _ _ h => (by cases h), fun _ _ _ h => (by cases h), fun _ _ _ h => (by cases h), i_rng2' ha.e hb.e⟩
  | zip a b ha hb => exact ⟨fun _ _ _ h => (by cases h), fun _ _ _ h => (by cases h), fun _ _ _ h => (by cases h), fun _ _ _ h => (by cases h), fun _ _ _ h => (by cases h), i_zip' ha.e hb.e⟩
  | enum a ha => exact ⟨fun _ _ _ h => (by cases h), fun _ _ _ h => (by cases h), fun _ _ _ h => (by cases h), fun _ _ _ h => (by cases h), fun _ _ _ h => (by cases h), i_enum' ha.e⟩
  | dnew => exact ⟨e_dnew, fun _ _ _ h => (by cases h), fun _ _ _ h => (by cases h), fun _ _ _ h => (by cases h), fun _ _ _ h => (by cases h), fun _ _ _ _ _ h => (by cases h)⟩
  | dsd a b ha hb => exact ⟨e_dsd ha.e hb.a, fun _ _ _ h => (by cases h), fun _ _ _ h => (by cases h), fun _ _ _ h => (by cases h), fun _ _ _ h => (by cases h), fun _ _ _ _ _ h => (by cases h)⟩
  | isx a T ha => exact ⟨e_isx ha.e, u_isx ha.e, fun _ _ _ h => (by cases h), fun _ _ _ h => (by cases h), fun _ _ _ h => (by cases h), fun _ _ _ _ _ h => (by cases h)⟩
  | fld a n ha => exact ⟨e_fld ha.e, fun _ _ _ h => (by cases h), fun _ _ _ h => (by cases h), fun _ _ _ h => (by cases h), fun _ _ _ h => (by cases h), fun _ _ _ _ _ h => (by cases h)⟩
  | calh f a ha => exact ⟨e_calh ha.a, u_calh ha.a, fun _ _ _ h => (by cases h), fun _ _ _ h => (by cases h), fun _ _ _ h => (by cases h), fun _ _ _ _ _ h => (by cases h)⟩
  | xcl f a ha => exact ⟨e_xcl ha.a, fun _ _ _ h => (by cases h), fun _ _ _ h => (by cases h), fun _ _ _ h => (by cases h), fun _ _ _ h => (by cases h), fun _ _ _ _ _ h => (by cases h)⟩
end
end DL

set_option Elab.async false
set_option linter.all false
set_option maxRecDepth 100000
set_option maxHeartbeats 8000000
namespace DL
open PySem L2 PySem.Spec PyProof.Rows
/-! expressions with calls that may refuse -/
abbrev LfW (K : Frg) (W : WX) (H : Hp) (A : List Addr) (σ : L2.St) (X : XW) : Prop := ∀ ρ' c fs M' H' A' cls d, X ρ' c fs M' → Stp H A H' A' → Rm K H' A' M' → Rs K H' A' σ ρ' → ExR K H' A' cls d c fs → W cls d σ H'
theorem LfW.stp {K : Frg} {W : WX} {H H1 : Hp} {A A1 : List Addr} {σ : L2.St} {X : XW} (h : LfW K W H A σ X) (s : Stp H A H1 A1) : LfW K W H1 A1 σ X :=
  fun ρ' c fs M' H' A' cls d q t m r e => h ρ' c fs M' H' A' cls d q (s.trans t) m r e
def rdXE (G : Gam) (K : Frg) (W : WX) (ie : IE) : TE := fun σ H κ => ∃ XX A ρ M Q, Rs K H A σ ρ ∧ Rm K H A M ∧ wpX G XX ie ρ M Q ∧ Lf K H A Q κ ∧ LfW K W H A σ XX
def rdXT (G : Gam) (K : Frg) (W : WX) (ie : IE) : TT := fun σ H κ => ∃ XX A ρ M Q, Rs K H A σ ρ ∧ Rm K H A M ∧ wpXT G XX ie ρ M Q ∧ LfB K H A Q κ ∧ LfW K W H A σ XX
def rdXA (G : Gam) (K : Frg) (W : WX) (ie : IE) : TA := fun σ H κ => ∃ XX A ρ M Q, Rs K H A σ ρ ∧ Rm K H A M ∧ wpXA G XX ie ρ M Q ∧ LfA K H A Q κ ∧ LfW K W H A σ XX
structure SndX (G : Gam) (fs : List String) (k : Nat) (ie : IE) : Prop where
  e : ∀ X W, Good G fs k X → Takes X W → ∀ e, chkX X.N fs ie X.env.scope e = true → PE X e (rdXE G X.K W ie)
  t : ∀ X W, Good G fs k X → Takes X W → ∀ e, chkXT X.N fs ie X.env.scope e = true → PT X e (rdXT G X.K W ie)
  a : ∀ X W, Good G fs k X → Takes X W → ∀ e, chkXA X.N fs ie X.env.scope e = true → PA X e (rdXA G X.K W ie)
section
variable {X : Cx} {W : WX} {G : Gam} {fs : List String} {k : Nat} {pos p q : Pos} {x y z : Expr} {a b c t xs : IE} {es : List Expr}
theorem x_low (hw : ∀ XX ρ M Q, wpX G XX a ρ M Q → wpE G a ρ M Q) (h : PE X x (rdE G X.K a)) : PE X x (rdXE G X.K W a) := h.weak fun σ H κ ⟨XX, A, ρ, M, Q, hs, hm, w, hl, _⟩ => ⟨A, ρ, M, Q, hs, hm, hw _ _ _ _ w, hl⟩
theorem xt_low (hw : ∀ XX ρ M Q, wpXT G XX a ρ M Q → wpT G a ρ M Q) (h : PT X x (rdT G X.K a)) : PT X x (rdXT G X.K W a) := h.weak fun σ H κ ⟨XX, A, ρ, M, Q, hs, hm, w, hl, _⟩ => ⟨A, ρ, M, Q, hs, hm, hw _ _ _ _ w, hl⟩
theorem x_bin {op : Operator} (ha : PE X x (rdXE G X.K W a)) (hb : PE X y (rdXE G X.K W b)) : PE X (.BinOp x op y pos) (rdXE G X.K W (.bin op a b)) :=
  (pe_op (opD_bin op) ha hb).weak fun σ H κ ⟨XX, A, ρ, M, Q, hs, hm, hw, hl, hx⟩ => ⟨XX, A, ρ, M, _, hs, hm, hw, fun d1 M1 v1 H1 A1 q1 s1 m1 r1 =>
    ⟨XX, A1, ρ, M1, _, hs.stp hm s1, m1, q1, fun d2 M2 v2 H2 A2 q2 s2 m2 r2 => ⟨A2, M2, d1, d2, _, r1.stp m1 s2, r2, m2, q2, (hl.stp s1).stp s2⟩, LfW.stp hx s1⟩, hx⟩
theorem x_not (ha : PE X x (rdXE G X.K W a)) : PE X (.UnaryOp .Not x pos) (rdXE G X.K W (.not a)) :=
  (pe_not ha).weak fun σ H κ ⟨XX, A, ρ, M, Q, hs, hm, hw, hl, hx⟩ => ⟨XX, A, ρ, M, _, hs, hm, hw, fun d1 M1 v1 H1 A1 ⟨i, e, q1⟩ s1 m1 r1 => by
    subst e; cases r1; exact ⟨i, rfl, (hl.stp s1).bl m1 q1⟩, hx⟩
theorem x_cmp {op : CmpOp} (g : Good G fs k X) (h1 : behindInMarks op y = false) (ha : PE X x (rdXE G X.K W a)) (hb : PE X y (rdXE G X.K W b)) : PE X (.Compare x [op] [y] pos) (rdXE G X.K W (.cmp op a b)) :=
  (pe_cmpR (opD_cmpA op g.un2) ha hb h1).weak fun σ H κ ⟨XX, A, ρ, M, Q, hs, hm, hw, hl, hx⟩ => ⟨XX, A, ρ, M, _, hs, hm, hw, fun d1 M1 v1 H1 A1 q1 s1 m1 r1 =>
    ⟨XX, A1, ρ, M1, _, hs.stp hm s1, m1, q1, fun d2 M2 v2 H2 A2 q2 s2 m2 r2 => ⟨A2, M2, d1, d2, _, r1.stp m1 s2, r2, m2, q2, (hl.stp s1).stp s2⟩, LfW.stp hx s1⟩, hx⟩
theorem xt_cmp {op : CmpOp} (g : Good G fs k X) (h1 : behindInMarks op y = false) (ha : PE X x (rdXE G X.K W a)) (hb : PE X y (rdXE G X.K W b)) : PT X (.Compare x [op] [y] pos) (rdXT G X.K W (.cmp op a b)) :=
  (pt_cmpR (opD_cmpA op g.un2) ha hb h1).weak fun σ H κ ⟨XX, A, ρ, M, Q, hs, hm, hw, hl, hx⟩ => ⟨XX, A, ρ, M, _, hs, hm, hw, fun d1 M1 v1 H1 A1 q1 s1 m1 r1 =>
    ⟨XX, A1, ρ, M1, _, hs.stp hm s1, m1, q1, fun d2 M2 v2 H2 A2 q2 s2 m2 r2 => ⟨A2, M2, d1, d2, _, r1.stp m1 s2, r2, m2, q2, fun d3 M3 v3 H3 A3 ⟨i, e, q3⟩ s3 m3 r3 => by
      subst e; cases r3
      exact ⟨i, rfl, hl i M3 H3 A3 q3 ((s1.trans s2).trans s3) m3⟩⟩, LfW.stp hx s1⟩, hx⟩
theorem xt_not (ha : PT X x (rdXT G X.K W a)) : PT X (.UnaryOp .Not x pos) (rdXT G X.K W (.not a)) :=
  (pt_not ha).weak fun σ H κ ⟨XX, A, ρ, M, Q, hs, hm, hw, hl, hx⟩ => ⟨XX, A, ρ, M, _, hs, hm, hw, fun i M1 H1 A1 q1 s1 m1 => hl _ M1 H1 A1 q1 s1 m1, hx⟩
theorem x_ite (ht : PT X z (rdXT G X.K W t)) (ha : PE X x (rdXE G X.K W a)) (hb : PE X y (rdXE G X.K W b)) : PE X (.IfExp z x y pos) (rdXE G X.K W (.ite t a b)) :=
  (pe_ifExp ht ha hb).weak fun σ H κ ⟨XX, A, ρ, M, Q, hs, hm, hw, hl, hx⟩ => ⟨XX, A, ρ, M, _, hs, hm, hw, fun i M1 H1 A1 q1 s1 m1 => by
    cases i with
    | true => exact ⟨XX, A1, ρ, M1, Q, hs.stp hm s1, m1, q1, hl.stp s1, LfW.stp hx s1⟩
    | false => exact ⟨XX, A1, ρ, M1, Q, hs.stp hm s1, m1, q1, hl.stp s1, LfW.stp hx s1⟩, hx⟩
theorem x_tup {n : Nat} (ha : PA X es (rdXA G X.K W xs)) : PE X (.Tuple es n pos) (rdXE G X.K W (.tup xs)) :=
  (pe_tup ha).weak fun σ H κ ⟨XX, A, ρ, M, Q, hs, hm, hw, hl, hx⟩ => ⟨XX, A, ρ, M, _, hs, hm, hw, fun ds M1 vs H1 A1 ⟨hz, q1⟩ s1 m1 r1 => ⟨by rw [r1.length]; exact hz, fun p hp => (hl.stp s1).newT m1 r1 q1 p hp⟩, hx⟩
theorem xa_nil : PA X [] (rdXA G X.K W .nil) := pa_nil.weak fun σ H κ ⟨XX, A, ρ, M, Q, hs, hm, hw, hl, hx⟩ => hl [] M [] H A hw (Stp.refl H A) hm .nil
theorem xa_cons {r : IE} (hst : noStar x = true) (ha : PE X x (rdXE G X.K W a)) (hr : PA X es (rdXA G X.K W r)) : PA X (x :: es) (rdXA G X.K W (.cons a r)) :=
  (pa_cons ha hr (star_of hst)).weak fun σ H κ ⟨XX, A, ρ, M, Q, hs, hm, hw, hl, hx⟩ => ⟨XX, A, ρ, M, _, hs, hm, hw, fun d1 M1 v1 H1 A1 q1 s1 m1 r1 =>
    ⟨XX, A1, ρ, M1, _, hs.stp hm s1, m1, q1, fun ds M2 vs H2 A2 q2 s2 m2 r2 => hl _ M2 _ H2 A2 q2 (s1.trans s2) m2 (.cons (r1.stp m1 s2) r2), LfW.stp hx s1⟩, hx⟩
theorem chkXA_nil {N : List Str} {sc : Scope} (h : chkXA N fs xs sc [] = true) : xs = .nil := by
  cases xs <;> first | rfl | simp [chkXA] at h
theorem chkXA_tail {N : List Str} {sc : Scope} {e : Expr} (h : chkXA N fs xs sc (e :: es) = true) : ∃ a r, xs = .cons a r ∧ noStar e = true ∧ chkXA N fs r sc es = true := by
  cases xs with
  | cons a r =>
    simp only [chkXA, Bool.and_eq_true] at h
    exact ⟨a, r, rfl, h.1.1, h.2⟩
  | _ => simp [chkXA] at h
theorem any_starX {env : Env} : ∀ {es : List Expr} {xs : IE} {N : List Str} {fs : List String} {sc : Scope}, chkXA N fs xs sc es = true → (backTo pos (starEach es env)).any (·.1) = false
  | [], _, _, _, _, _ => rfl
  | e :: es, xs, N, fs, sc, h => by
    obtain ⟨a, r, rfl, h1, h2⟩ := chkXA_tail h
    rw [star_of h1]
    have ih := @any_starX env es r N fs sc h2
    unfold backTo at ih ⊢
    rw [List.map_cons, List.any_cons, ih]
    rfl
theorem x_blt {f : BF} (g : Good G fs k X) (hf : f ≠ .sset) (hq : (cold fs || coolF f) = true) (h1 : glB X.env.scope (Str.ofString (bfName f)) = true) (hx : chkXA X.N fs xs X.env.scope es = true) (ha : PA X es (rdXA G X.K W xs)) :
    PE X (.Call (.Name (Str.ofString (bfName f)) p) es [] pos) (rdXE G X.K W (.blt f xs)) := by
  obtain ⟨v, hv, hr, hk⟩ := blt_ok g f hf hq
  have hm : X.mg (Str.ofString (bfName f)) = none := g.bi _ (by cases f <;> decide)
  have hn : Str.ofString (bfName f) ≠ "__name__" := by cases f <;> decide +kernel
  have hd : (Str.ofString (bfName f) == ("__debug__" : Str)) = false := by cases f <;> decide +kernel
  cases es with
  | nil =>
    cases chkXA_nil hx
    exact ⟨fun pins s σ H Q I ⟨XX, A, ρ, M, Q', hs, hm, hw, hl, _⟩ => (wp_nil_no (f := f) (G := G) (ρ := ρ) (M := M) (Q := Q') hw).elim⟩
  | cons e es =>
    obtain ⟨a, r, rfl, h4, hr2⟩ := chkXA_tail hx
    have hst : starEach (e :: es) X.env = (false, eval e X.env) :: starEach es X.env := star_of h4
    have hpl : (backTo pos (starEach es X.env)).any (·.1) = false := any_starX hr2
    have go : ∀ (h : PE X (.Call (.Name (Str.ofString (bfName f)) p) (e :: es) [] pos) (tCB (rC X.K (bfD f)) (rdXA G X.K W (.cons a r)))), PE X (.Call (.Name (Str.ofString (bfName f)) p) (e :: es) [] pos) (rdXE G X.K W (.blt f (.cons a r))) := fun h =>
      h.weak fun σ H κ ⟨XX, A, ρ, M, Q, hs, hm, hw, hl, hx⟩ => ⟨XX, A, ρ, M, _, hs, hm, hw, fun ds M1 vs H1 A1 q1 s1 m1 r1 => ⟨A1, M1, ds, _, r1, m1, q1, hl.stp s1⟩, hx⟩
    rcases hk with ⟨id, rfl⟩ | ⟨T, rfl⟩
    · exact go (pe_callB hr (glB_ok h1) hm hv ha hn hd hst hpl)
    · exact go (pe_callTy hr (glB_ok h1) hm hv ha hn hd hst hpl)
theorem x_call {f : String} (g : Good G fs k X) (hq : cold fs = true) (hp : plainK f = true) (hf : f ∈ fs) (hn : conNames.contains f = false) (h1 : glB X.env.scope (Str.ofString f) = true) (hd : (Str.ofString f == ("__debug__" : Str)) = false) (hx : chkXA X.N fs xs X.env.scope es = true) (ha : PA X es (rdXA G X.K W xs)) :
    PE X (.Call (.Name (Str.ofString f) p) es [] pos) (rdXE G X.K W (.call f xs)) := by
  obtain ⟨addr, fd, ps, hm, hk, hb, F⟩ := ((g.fn f hf).fn hn hp).ex
  refine ⟨fun pins s σ H κ I ⟨XX, A, ρ, M, Q, hs, hmm, hw, hl, hxx⟩ => ?_⟩
  refine wpAny_Call_Name_kw (ld_glob I (glB_ok h1) hm ?_ hd)
  cases es with
  | nil =>
    cases chkXA_nil hx
    exact PySem.W.callWith_K0 I.kIn hk (run_fnD hq (us := []) g hb F I .nil .nil hmm hw hl)
  | cons e es =>
    obtain ⟨a, r, rfl, h4, hr2⟩ := chkXA_tail hx
    refine PySem.W.callWith_K (h₀ := X.base) I.ok.mod.kin hk (thn (ha.run pos pins s σ H (fun vs H1 => ∃ A1 M1 ds, RpL X.K H1 A1 vs ds ∧ Rm X.K H1 A1 M1 ∧ Stp H A H1 A1 ∧ G f ds M1 Q) I ⟨XX, A, ρ, M, _, hs, hmm, hw, fun ds M1 vs H1 A1 q1 s1 m1 r1 => ⟨A1, M1, ds, r1, m1, s1, q1⟩, hxx⟩) fun us s1 ⟨vs, H1, I1, rv, A1, M1, ds, r1, m1, st, q1⟩ => ⟨I1.kIn, ?_⟩) (star_of h4) (any_starX hr2)
    exact run_fnD hq g hb F I1 rv r1 m1 q1 (hl.stp st)
/-- a call that may refuse -/
theorem run_fnX (hq : cold fs = true) {pins : List (Addr × Obj)} {s : Shared} {σ : L2.St} {H : Hp} {κ : VK} {addr : Addr} {fd : FuncData} {ps : List Str} {S : DSpec} (g : Good G fs k X) (tk : Takes X W) (hb : Binds X.K fd ps []) (F : FnGX X.prog X.w X.K X.mg X.base k addr fd ps S)
    (I : L2.Inv X pins σ H s) {us : List Value} {vs : List V} (r : Vals vs us) {A : List Addr} {M : Mem} {ds : List D} {Q : Kn} {ρ : En} {XX : XW} (rd : RpL X.K H A vs ds) (m : Rm X.K H A M) (h : S ds M (spl Q (XX ρ))) (hs : Rs X.K H A σ ρ) (hl : Lf X.K H A Q κ) (hx : LfW X.K W H A σ XX) :
    wpAny (model X.prog X.w) X.A (PySem.call (.ref addr) us) (EP X pins σ κ) X.xe s := by
  have hlen : (us ++ []).length = ps.length := by rw [List.append_nil, ← r.length, rd.length, F.len _ _ _ h]
  have hbn := hb s us I.kIn hlen
  rw [List.append_nil] at hbn
  have hl2 : Lf X.K H A (spl Q (XX ρ)) κ := fun d M' v H' A' q st m' rp => by
    refine hl d M' v H' A' ?_ st m' rp
    cases rp <;> exact q
  have hE : LfE X.K H A (spl Q (XX ρ)) (fun cls d H' => W cls d σ H') := fun c fs M' H' A' cls d q st m' ex => hx ρ c fs M' H' A' cls d q st m' (hs.stp m st) ex
  refine wpAny_call (codeAny_mono (F.run X.A X.stack s H ⟨us, []⟩ us vs A ds M _ κ _ g.gd (g.room.room (I.ok.hd (g.calm hq))) I.env0 hbn r rd m h hl2 hE) fun res s' hr => ?_)
  cases res with
  | error e => exact tk e s' (XE.of_call I (fun cls d H' h => h) hr)
  | ok fl =>
    cases fl with
    | ret u => exact I.after hr
    | next => exact False.elim hr
    | brk => exact False.elim hr
    | cont => exact False.elim hr
theorem x_xcl {f f2 : String} (g : Good G fs k X) (tk : Takes X W) (hq : cold fs = true) (hk2 : xKeys.lookup f = some f2) (hf : f ∈ fs) (h1 : glB X.env.scope (Str.ofString f2) = true) (hd : (Str.ofString f2 == ("__debug__" : Str)) = false) (hx : chkXA X.N fs xs X.env.scope es = true) (ha : PA X es (rdXA G X.K W xs)) :
    PE X (.Call (.Name (Str.ofString f2) p) es [] pos) (rdXE G X.K W (.xcl f xs)) := by
  obtain ⟨addr, fd, ps, hm, hk, hb, F⟩ := ((g.fn f hf).xn f2 hk2).ex
  refine ⟨fun pins s σ H κ I ⟨XX, A, ρ, M, Q, hs, hmm, hw, hl, hxx⟩ => ?_⟩
  refine wpAny_Call_Name_kw (ld_glob I (glB_ok h1) hm ?_ hd)
  cases es with
  | nil =>
    cases chkXA_nil hx
    exact PySem.W.callWith_K0 I.kIn hk (run_fnX hq (us := []) g tk hb F I .nil .nil hmm hw hs hl hxx)
  | cons e es =>
    obtain ⟨a, r, rfl, h4, hr2⟩ := chkXA_tail hx
    refine PySem.W.callWith_K (h₀ := X.base) I.ok.mod.kin hk (thn (ha.run pos pins s σ H (fun vs H1 => ∃ A1 M1 ds, RpL X.K H1 A1 vs ds ∧ Rm X.K H1 A1 M1 ∧ Stp H A H1 A1 ∧ G f ds M1 (spl Q (XX ρ))) I ⟨XX, A, ρ, M, _, hs, hmm, hw, fun ds M1 vs H1 A1 q1 s1 m1 r1 => ⟨A1, M1, ds, r1, m1, s1, q1⟩, hxx⟩) fun us s1 ⟨vs, H1, I1, rv, A1, M1, ds, r1, m1, st, q1⟩ => ⟨I1.kIn, ?_⟩) (star_of h4) (any_starX hr2)
    exact run_fnX hq g tk hb F I1 rv r1 m1 q1 (hs.stp hmm st) (hl.stp st) (LfW.stp hxx st)
end
theorem sndX (G : Gam) (fs : List String) (k : Nat) (ie : IE) : SndX G fs k ie := by
  induction ie with
  | xcl f a ha =>
    refine ⟨fun X W g tk e h => ?_, fun X W g tk e h => (by cases h), fun _ _ _ _ _ h => (by cases h)⟩
    unfold chkX at h
    split at h
    · rename_i f' es p q
      cases asCall_eq q
      split at h
      · rename_i n q2
        obtain ⟨p2, rfl⟩ := asName_eq q2
        simp only [Bool.and_eq_true, List.contains_iff_mem] at h
        obtain ⟨⟨⟨⟨hq, h0⟩, h1⟩, h2⟩, h3⟩ := h
        split at h1
        · rename_i r hr
          simp only [Bool.and_eq_true, decide_eq_true_eq, Bool.not_eq_true'] at h1
          obtain ⟨rfl, h4⟩ := h1
          exact x_xcl g tk hq hr h0 h2 h4 h3 (ha.a X W g tk es h3)
        · cases h1
      · cases h
    · cases h
  | bin op a b ha hb =>
    refine ⟨fun X W g tk e h => ?_, fun X W g tk e h => (by cases h), fun _ _ _ _ _ h => (by cases h)⟩
    unfold chkX at h
    split at h
    · rename_i op' x y q
      obtain ⟨p, rfl⟩ := asBin_eq q
      simp only [Bool.and_eq_true, decide_eq_true_eq] at h
      obtain ⟨⟨rfl, h1⟩, h2⟩ := h
      exact x_bin (ha.e X W g tk x h1) (hb.e X W g tk y h2)
    · cases h
  | not a ha =>
    refine ⟨fun X W g tk e h => ?_, fun X W g tk e h => ?_, fun _ _ _ _ _ h => (by cases h)⟩
    · unfold chkX at h
      split at h
      · rename_i x q
        obtain ⟨p, rfl⟩ := asUn_eq q
        exact x_not (ha.e X W g tk x h)
      · cases h
    · unfold chkXT at h
      split at h
      · rename_i x q
        obtain ⟨p, rfl⟩ := asUn_eq q
        exact xt_not (ha.t X W g tk x h)
      · cases h
  | cmp op a b ha hb =>
    refine ⟨fun X W g tk e h => ?_, fun X W g tk e h => ?_, fun _ _ _ _ _ h => (by cases h)⟩
    · unfold chkX at h
      split at h
      · rename_i x op' y q
        obtain ⟨p, rfl⟩ := asCmp_eq q
        simp only [Bool.and_eq_true, decide_eq_true_eq] at h
        obtain ⟨⟨⟨rfl, h1⟩, h3⟩, h4⟩ := h
        exact x_cmp g (by simpa [cmpM] using h1) (ha.e X W g tk x h3) (hb.e X W g tk y h4)
      · cases h
    · unfold chkXT at h
      split at h
      · rename_i x op' y q
        obtain ⟨p, rfl⟩ := asCmp_eq q
        simp only [Bool.and_eq_true, decide_eq_true_eq] at h
        obtain ⟨⟨⟨rfl, h1⟩, h3⟩, h4⟩ := h
        exact xt_cmp g (by simpa [cmpM] using h1) (ha.e X W g tk x h3) (hb.e X W g tk y h4)
      · cases h
  | ite t a b ht ha hb =>
    refine ⟨fun X W g tk e h => ?_, fun X W g tk e h => (by cases h), fun _ _ _ _ _ h => (by cases h)⟩
    unfold chkX at h
    split at h
    · rename_i c x y q
      obtain ⟨p, rfl⟩ := asIfE_eq q
      simp only [Bool.and_eq_true] at h
      exact x_ite (ht.t X W g tk c h.1.1) (ha.e X W g tk x h.1.2) (hb.e X W g tk y h.2)
    · cases h
  | tup a ha =>
    refine ⟨fun X W g tk e h => ?_, fun X W g tk e h => (by cases h), fun _ _ _ _ _ h => (by cases h)⟩
    unfold chkX at h
    split at h
    · rename_i es q
      obtain ⟨n, p, rfl⟩ := asTup_eq q
      exact x_tup (ha.a X W g tk es h)
    · cases h
  | blt f a ha =>
    refine ⟨fun X W g tk e h => ?_, fun X W g tk e h => xt_low (fun _ _ _ _ w => w) ((snd G fs k (.blt f a)).t X g e h).1, fun _ _ _ _ _ h => (by cases h)⟩
    unfold chkX at h
    split at h
    · rename_i f' es p q
      cases asCall_eq q
      split at h
      · rename_i n q2
        obtain ⟨p2, rfl⟩ := asName_eq q2
        simp only [Bool.and_eq_true, decide_eq_true_eq, Bool.not_eq_true'] at h
        obtain ⟨⟨⟨⟨h0, rfl⟩, h1⟩, hq⟩, h2⟩ := h
        exact x_blt g (fun z => by subst z; cases h0) hq h1 h2 (ha.a X W g tk es h2)
      · cases h
    · cases h
  | call f a ha =>
    refine ⟨fun X W g tk e h => ?_, fun X W g tk e h => xt_low (fun _ _ _ _ w => w) ((snd G fs k (.call f a)).t X g e h).1, fun _ _ _ _ _ h => (by cases h)⟩
    unfold chkX at h
    split at h
    · rename_i f' es p q
      cases asCall_eq q
      split at h
      · rename_i n q2
        obtain ⟨p2, rfl⟩ := asName_eq q2
        simp only [Bool.and_eq_true, decide_eq_true_eq, Bool.not_eq_true', List.contains_iff_mem] at h
        obtain ⟨⟨⟨⟨⟨⟨⟨h0, hn⟩, hq⟩, hp⟩, rfl⟩, h1⟩, h2⟩, h3⟩ := h
        exact x_call g hq hp h0 hn h1 h2 h3 (ha.a X W g tk es h3)
      · cases h
    · cases h
  | nil =>
    refine ⟨fun X W g tk e h => (by cases h), fun X W g tk e h => (by cases h), fun X W g tk e h => ?_⟩
    cases e with
    | nil => exact xa_nil
    | cons _ _ => cases h
  | cons a r ha hr =>
    refine ⟨fun X W g tk e h => (by cases h), fun X W g tk e h => (by cases h), fun X W g tk e h => ?_⟩
    cases e with
    | nil => cases h
    | cons e es =>
      simp only [chkXA, Bool.and_eq_true] at h
      exact xa_cons h.1.1 (ha.e X W g tk e h.1.2) (hr.a X W g tk es h.2)
  | _ => exact ⟨fun X W g tk e h => x_low (fun _ _ _ _ w => w) ((snd G fs k _).e X g e h), fun X W g tk e h => xt_low (fun _ _ _ _ w => w) ((snd G fs k _).t X g e h).1, fun _ _ _ _ _ h => (by cases h)⟩
end DL

set_option Elab.async false
set_option linter.all false
set_option maxRecDepth 100000
set_option maxHeartbeats 8000000
namespace DL
open PySem L2 PySem.Spec PyProof.Rows
/-! statements: is this tree that text? -/
def lnB (sc : Scope) (x : Str) : Bool := match sc.names.lookup x with
  | some .local => true
  | _ => false
mutual
def chkG (N : List Str) (fs : List String) : IG → Scope → Expr → Bool
  | .v i, sc, .Name x _ => decide (N[i]? = some x) && locB sc x
  | .t xs, sc, .Tuple es _ _ => cold fs && chkGs N fs xs sc es
  | .sub o i, sc, .Subscript x y _ => noSlice y && chkE N fs o sc x && chkE N fs i sc y
  | _, _, _ => false
def chkGs (N : List Str) (fs : List String) : IG → Scope → List Expr → Bool
  | .nil, _, [] => true
  | .cons a r, sc, e :: es => chkG N fs a sc e && chkGs N fs r sc es
  | _, _, _ => false
end
/-- two sides that are not swapped: their targets are not two or three plain names -/
def plainNames (sc : Scope) : List Expr → Bool
  | [] => true
  | .Name x _ :: r => lnB sc x && plainNames sc r
  | _ :: _ => false
def noSwap (sc : Scope) (t v : Expr) : Bool := match t, v with
  | .Tuple ts _ _, .Tuple vs _ _ => (!(ts.length == 2 || ts.length == 3) || !plainNames sc ts) || vs.all (foldedForSure 8)
  | _, _ => true
def parOk (N : List Str) (sc : Scope) (is : List Nat) (ts vs : List Expr) : Bool := match is, ts, vs with
  | [i, j], [.Name x px, .Name y py], [a, b] => decide (N[i]? = some x) && decide (N[j]? = some y) && decide (i ≠ j) && lnB sc x && lnB sc y && decide (py.line = px.line) && decide (x ≠ y) && noStar a && noStar b && ![a, b].all (foldedForSure 8) && ![a, b].all (constantsAlone 8)
  | [i, j, l], [.Name x px, .Name y py, .Name z pz], [a, b, c] => decide (N[i]? = some x) && decide (N[j]? = some y) && decide (N[l]? = some z) && decide (i ≠ j) && decide (i ≠ l) && decide (j ≠ l) && lnB sc x && lnB sc y && lnB sc z && decide (py.line = px.line) && decide (pz.line = px.line) && decide (x ≠ y) && decide (x ≠ z) && decide (y ≠ z) && noStar a && noStar b && noStar c && ![a, b, c].all (foldedForSure 8) && ![a, b, c].all (constantsAlone 8)
  | _, _, _ => false
/-- a name that a block reads, too -/
def celT (sc : Scope) (t : Expr) : Bool := match t with
  | .Name y _ => (match sc.names.lookup y with
    | some .cell => true
    | _ => false)
  | _ => false
/-- no walk of a dict -/
def notCd : IE → Bool
  | .compd _ _ _ _ _ => false
  | _ => true
def lcOk (N : List Str) (sc : Scope) (g : IG) (t v : Expr) : Bool := match g, t, v with
  | .v i, .Name y py, .ListComp _ _ scope pos => decide (N[i]? = some y) && lnB sc y && decide (py.line = pos.line) && !(scope.names.any fun (n, k) => n == y && (k == .local || k == .cell))
  | _, _, _ => false
def asAsg : Stmt → Option (Expr × Expr)
  | .Assign [t] v _ => some (t, v)
  | _ => none
def asEx : Stmt → Option Expr
  | .Expr v _ => some v
  | _ => none
def asRet : Stmt → Option (Option Expr)
  | .Return v _ => some v
  | _ => none
def asFlow : Stmt → Option Nat
  | .Pass _ => some 0
  | .Break _ => some 1
  | .Continue _ => some 2
  | _ => none
def asIf : Stmt → Option (Expr × List Stmt × List Stmt)
  | .If c x y _ => some (c, x, y)
  | _ => none
def asWhl : Stmt → Option (Expr × List Stmt)
  | .While c x [] _ => some (c, x)
  | _ => none
def asFor : Stmt → Option (Expr × Expr × List Stmt)
  | .For t i x [] _ => some (t, i, x)
  | _ => none
def asRaise : Stmt → Option (Str × List Expr)
  | .Raise (some (.Call (.Name x _) es [] _)) none _ => some (x, es)
  | _ => none
def asTry : Stmt → Option (List Stmt × Str × Option Str × Stmt × List Stmt)
  | .Try b [.ExceptHandler (some (.Name x _)) nm (s :: r) _] [] [] _ => some (b, x, nm, s, r)
  | _ => none
theorem asRaise_eq {s : Stmt} {x : Str} {es : List Expr} (h : asRaise s = some (x, es)) : ∃ p p2 p3, s = .Raise (some (.Call (.Name x p) es [] p2)) none p3 := by
  unfold asRaise at h
  split at h
  · cases h; exact ⟨_, _, _, rfl⟩
  · cases h
theorem asTry_eq {s : Stmt} {b r : List Stmt} {x : Str} {nm : Option Str} {s0 : Stmt} (h : asTry s = some (b, x, nm, s0, r)) : ∃ p p2 p3, s = .Try b [.ExceptHandler (some (.Name x p)) nm (s0 :: r) p2] [] [] p3 := by
  unfold asTry at h
  split at h
  · cases h; exact ⟨_, _, _, rfl⟩
  · cases h
def nmB (N : List Str) (sc : Scope) (i : Option Nat) (nm : Option Str) : Bool := match i, nm with
  | some i, some n => decide (N[i]? = some n) && lnB sc n
  | none, none => true
  | _, _ => false
def keyR (c : String) : String := match rKeys.find? (fun q => decide (q.2 = c)) with
  | some q => q.1
  | none => ""
theorem asAsg_eq {s : Stmt} {t v : Expr} (h : asAsg s = some (t, v)) : ∃ p, s = .Assign [t] v p := by
  cases s with
  | Assign ts v' p =>
    match ts, h with
    | [t'], h => cases h; exact ⟨_, rfl⟩
  | _ => cases h
theorem asEx_eq {s : Stmt} {v : Expr} (h : asEx s = some v) : ∃ p, s = .Expr v p := by cases s <;> first | (cases h; done) | (cases h; exact ⟨_, rfl⟩)
theorem asRet_eq {s : Stmt} {v : Option Expr} (h : asRet s = some v) : ∃ p, s = .Return v p := by cases s <;> first | (cases h; done) | (cases h; exact ⟨_, rfl⟩)
theorem asIf_eq {s : Stmt} {c : Expr} {x y : List Stmt} (h : asIf s = some (c, x, y)) : ∃ p, s = .If c x y p := by cases s <;> first | (cases h; done) | (cases h; exact ⟨_, rfl⟩)
theorem asWhl_eq {s : Stmt} {c : Expr} {x : List Stmt} (h : asWhl s = some (c, x)) : ∃ p, s = .While c x [] p := by
  cases s with
  | While c' x' o p => cases o <;> cases h; exact ⟨_, rfl⟩
  | _ => cases h
theorem asFor_eq {s : Stmt} {t i : Expr} {x : List Stmt} (h : asFor s = some (t, i, x)) : ∃ p, s = .For t i x [] p := by
  cases s with
  | For t' i' x' o p => cases o <;> cases h; exact ⟨_, rfl⟩
  | _ => cases h
theorem asFlow_eq {s : Stmt} : (asFlow s = some 0 → ∃ p, s = .Pass p) ∧ (asFlow s = some 1 → ∃ p, s = .Break p) ∧ (asFlow s = some 2 → ∃ p, s = .Continue p) := by
  cases s <;> refine ⟨fun h => ?_, fun h => ?_, fun h => ?_⟩ <;> first | (cases h; done) | exact ⟨_, rfl⟩
mutual
def chkS (N : List Str) (fs : List String) (sc : Scope) : IS → List Stmt → Bool
  | .skip, [] => true
  | .seq s r, st :: rest => chk1 N fs sc s st && chkS N fs sc r rest
  | _, _ => false
def chk1 (N : List Str) (fs : List String) (sc : Scope) : IS → Stmt → Bool
  | .asg g e, st => (match asAsg st with | some (t, v) => ((lcOk N sc g t v && notCd e) || (chkG N fs g sc t && (noComp v || isTup t || celT sc t) && noSwap sc t v)) && chkE N fs e sc v | none => false)
  | .par is xs, st => (match asAsg st with | some (t, v) => (match asTup t, asTup v with | some ts, some vs => cold fs && parOk N sc is ts vs && chkA N fs xs sc vs | _, _ => false) | none => false)
  | .ex e, st => (match asEx st with | some v => noComp v && chkE N fs e sc v | none => false)
  | .ret e, st => (match asRet st with | some (some v) => chkE N fs e sc v | _ => false)
  | .rse, st => (match st with | .Raise _ _ _ => true | _ => false)
  | .rsx c xs, st => (match asRaise st with | some (x, e :: es) => cold fs && fs.contains (keyR c) && decide (rKeys.lookup (keyR c) = some c) && decide (x = Str.ofString c) && glB sc x && !(x == ("__debug__" : Str)) && chkA N fs xs sc (e :: es) | _ => false)
  | .asx g e, st => (match asAsg st with | some (t, v) => chkG N fs g sc t && (noComp v || isTup t || celT sc t) && noSwap sc t v && chkX N fs e sc v | none => false)
  | .exx e, st => (match asEx st with | some v => noComp v && chkX N fs e sc v | none => false)
  | .rtx e, st => (match asRet st with | some (some v) => chkX N fs e sc v | _ => false)
  | .try_ b c i h, st => (match asTry st with | some (body, x, nm, s0, r) => exAll.contains c && fs.contains c && decide (x = Str.ofString c) && glB sc x && nmB N sc i nm && chkS N fs sc b body && chkS N ("#" :: fs) sc h (s0 :: r) | none => false)
  | .retn, st => (match asRet st with | some none => true | _ => false)
  | .pass, st => decide (asFlow st = some 0)
  | .brk, st => decide (asFlow st = some 1)
  | .cnt, st => decide (asFlow st = some 2)
  | .ite t a b, st => (match asIf st with | some (c, x, y) => chkT N fs t sc c && chkS N fs sc a x && chkS N fs sc b y | none => false)
  | .whl t b, st => (match asWhl st with | some (c, x) => chkT N fs t sc c && chkS N fs sc b x | none => false)
  | .for_ g it b, st => (match asFor st with | some (t, i, x) => cold fs && noSet i && chkG N fs g sc t && (tgI it t && chkI N fs it sc i) && chkS N fs sc b x | none => false)
  | _, _ => false
end

structure GoodS (G : Gam) (fs : List String) (k : Nat) (W : WX) (X : Cx) : Prop where
  g : Good G fs k X
  fn : ∀ x, X.fn x = true
  kd : X.env.scope.kind = .function
  po : PassesOwn (model X.prog X.w) X.A X.env X.xe
  hs : X.stack = X.env :: X.outer
  hf : X.env.frame = some X.env.locals
  tk : Takes X W
structure LfS (K : Frg) (W : WX) (H : Hp) (A : List Addr) (E : DE) (D : Ends) : Prop where
  nx : ∀ ρ' M' σ' H' A', E.nx ρ' M' → Stp H A H' A' → Rm K H' A' M' → Rs K H' A' σ' ρ' → D.nx σ' H'
  rt : Lf K H A E.rt D.rt
  bk : ∀ ρ' M' σ' H' A', E.bk ρ' M' → Stp H A H' A' → Rm K H' A' M' → Rs K H' A' σ' ρ' → D.bk σ' H'
  ct : ∀ ρ' M' σ' H' A', E.ct ρ' M' → Stp H A H' A' → Rm K H' A' M' → Rs K H' A' σ' ρ' → D.ct σ' H'
  xx : ∀ σ, LfW K W H A σ E.xx
theorem LfS.stp {K : Frg} {W : WX} {H H' : Hp} {A A' : List Addr} {E : DE} {D : Ends} (l : LfS K W H A E D) (s : Stp H A H' A') : LfS K W H' A' E D :=
  ⟨fun ρ M σ H2 A2 q t m r => l.nx ρ M σ H2 A2 q (s.trans t) m r, l.rt.stp s, fun ρ M σ H2 A2 q t m r => l.bk ρ M σ H2 A2 q (s.trans t) m r, fun ρ M σ H2 A2 q t m r => l.ct ρ M σ H2 A2 q (s.trans t) m r, fun σ => LfW.stp (l.xx σ) s⟩
def rdS (G : Gam) (K : Frg) (W : WX) (s : IS) : TS := fun D σ H => ∃ A ρ M E, Rs K H A σ ρ ∧ Rm K H A M ∧ wpS G s E ρ M ∧ LfS K W H A E D
def rdG (G : Gam) (K : Frg) (g : IG) : L2.TG := fun v σ H Q => ∃ A M d ρ Qd, Rp K H A v d ∧ Rs K H A σ ρ ∧ Rm K H A M ∧ wpG G g d ρ M Qd ∧
  ∀ ρ' M' σ' H' A', Qd ρ' M' → Stp H A H' A' → Rm K H' A' M' → Rs K H' A' σ' ρ' → Q σ' H'
def rdGs (G : Gam) (K : Frg) (g : IG) : L2.TGs := fun vs σ H Q => ∃ A M ds ρ Qd, RpL K H A vs ds ∧ Rs K H A σ ρ ∧ Rm K H A M ∧ wpGs G g ds ρ M Qd ∧
  ∀ ρ' M' σ' H' A', Qd ρ' M' → Stp H A H' A' → Rm K H' A' M' → Rs K H' A' σ' ρ' → Q σ' H'
theorem _root_.L2.PS.weak {X : Cx} {e : Stmt} {t t' : TS} (h : PS X e t) (w : ∀ D σ H, t' D σ H → t D σ H) : PS X e t' := ⟨fun pins s σ H D I q => h.run pins s σ H D I (w D σ H q)⟩
theorem _root_.L2.PSs.weak {X : Cx} {e : List Stmt} {t t' : TS} (h : PSs X e t) (w : ∀ D σ H, t' D σ H → t D σ H) : PSs X e t' := ⟨fun pins s σ H D I q => h.run pins s σ H D I (w D σ H q)⟩
section
variable {X : Cx} {W : WX} {G : Gam} {fs : List String} {k : Nat} {pos p q : Pos}
theorem locB_loc (g : GoodS G fs k W X) {x : Str} (h : locB X.env.scope x = true) : Loc X.env.scope x := by
  unfold locB at h
  split at h
  · exact .inl (by assumption)
  · exact .inr (by assumption)
  · cases h
theorem asg_tgt {t : Expr} {r : List Expr} {g : IG} (h : chkG X.N fs g X.env.scope t = true) : (assignEach (t :: r) X.env) = (false, assign t X.env) :: assignEach r X.env := by
  cases g with
  | v i => cases t <;> first | rfl | cases h
  | t xs => cases t <;> first | rfl | cases h
  | sub o i => cases t <;> first | rfl | cases h
  | nil => cases h
  | cons a r => cases h
theorem gs_len {N : List Str} {sc : Scope} : ∀ (g : IG) (ts : List Expr), chkGs N fs g sc ts = true → ts.length = lenG g
  | .nil, [], _ => rfl
  | .cons a r, t :: ts, h => by
    simp only [chkGs, Bool.and_eq_true] at h
    simp [lenG, gs_len r ts h.2]
  | .nil, _ :: _, h => by cases h
  | .cons _ _, [], h => by cases h
  | .v _, _, h => by cases h
  | .t _, _, h => by cases h
  | .sub _ _, _, h => by cases h
theorem pg_or {t1 t2 : L2.TG} {e : Expr} (h1 : PG X e t1) (h2 : PG X e t2) : PG X e (fun v σ H Q => t1 v σ H Q ∨ t2 v σ H Q) :=
  ⟨fun pins s σ H v u Q I r h => h.elim (h1.run pins s σ H v u Q I r) (h2.run pins s σ H v u Q I r)⟩
mutual
theorem g_snd (gs : GoodS G fs k W X) : ∀ (g : IG) (t : Expr), chkG X.N fs g X.env.scope t = true → PG X t (rdG G X.K g)
  | .v i, t, h => by
    cases t with
    | Name x p =>
      simp only [chkG, Bool.and_eq_true, decide_eq_true_eq] at h
      exact (pg_name gs.g.nd h.1 (locB_loc gs h.2) (.inl (gs.fn x))).weak fun v σ H κ ⟨A, M, d, ρ, Qd, r, rs, m, w, hq⟩ => hq _ M _ H A w (Stp.refl H A) m (rs.set r i)
    | _ => cases h
  | .t xs, t, h => by
    cases t with
    | Tuple es n p =>
      obtain ⟨hq, h⟩ := Bool.and_eq_true_iff.mp h
      obtain ⟨i1, i2, i3⟩ := gs_snd gs xs es h
      refine (pg_or (pg_tup (n := es.length) (gs.g.calm hq) i1 i2 i3) (pg_lst (n := es.length) (gs.g.calm hq) i1 i2 i3)).weak fun v σ H κ ⟨A, M, d, ρ, Qd, r, rs, m, ⟨ds, e, el, w⟩, hq⟩ => ?_
      rcases e with e | ⟨n, e, g⟩
      · subst e
        cases r with
        | tup ha la => exact .inl ⟨_, _, rfl, ha.sq, by rw [la.length, el, gs_len xs es h], A, M, ds, ρ, _, la, rs, m, w, hq⟩
      · subst e
        cases r with
        | lst ha hka =>
          obtain ⟨vs, h2, h3⟩ := m.list ha hka g
          exact .inr ⟨_, vs, rfl, SqL.of h2, by rw [h3.length, el, gs_len xs es h], A, M, ds, ρ, _, h3, rs, m, w, hq⟩
    | _ => cases h
  | .sub o i, t, h => by
    cases t with
    | Subscript x y p =>
      simp only [chkG, Bool.and_eq_true] at h
      have hx := (snd G fs k o).e X gs.g x h.1.2
      have hy := (snd G fs k i).e X gs.g y h.2
      have hns := h.1.1
      refine (pg_sub hx hy (setD_ok (by have := gs.g.un; omega)) (by intro v; cases y <;> first | rfl | cases hns)).weak fun v σ H κ ⟨A, M, d, ρ, Qd, r, rs, m, w, hq⟩ => ?_
      refine ⟨A, ρ, M, _, rs, m, w, fun d1 M1 v1 H1 A1 q1 s1 m1 r1 => ⟨A1, ρ, M1, _, rs.stp m s1, m1, q1, fun d2 M2 v2 H2 A2 q2 s2 m2 r2 => ?_⟩⟩
      exact ⟨A2, M2, d1, d2, d, _, r1.stp m1 s2, r2, (r.stp m s1).stp m1 s2, m2, q2, fun M3 H3 q3 s3 m3 => hq ρ M3 σ H3 A2 q3 ((s1.trans s2).trans s3) m3 (((rs.stp m s1).stp m1 s2).stp m2 s3)⟩
    | _ => cases h
  | .nil, t, h => by cases h
  | .cons _ _, t, h => by cases h
theorem gs_snd (gs : GoodS G fs k W X) : ∀ (g : IG) (ts : List Expr), chkGs X.N fs g X.env.scope ts = true → PGs X ts (rdGs G X.K g) ∧ (assignEach ts X.env).length = ts.length ∧ (assignEach ts X.env).findIdx? (·.1) = none
  | .nil, [], h => ⟨pgs_nil.weak fun v σ H κ ⟨A, M, ds, ρ, Qd, r, rs, m, w, hq⟩ => by
      cases r with
      | nil => exact ⟨rfl, hq ρ M σ H A w (Stp.refl H A) m rs⟩
      | cons _ _ => exact w.elim, rfl, rfl⟩
  | .cons a r, t :: ts, h => by
    simp only [chkGs, Bool.and_eq_true] at h
    obtain ⟨i1, i2, i3⟩ := gs_snd gs r ts h.2
    have e := asg_tgt (r := ts) h.1
    refine ⟨(pgs_cons (g_snd gs a t h.1) i1 (by rw [e]; rfl)).weak fun v σ H κ ⟨A, M, ds, ρ, Qd, r, rs, m, w, hq⟩ => ?_, by rw [e, List.length_cons, i2]; rfl, by rw [e, List.findIdx?_cons, i3]; rfl⟩
    cases r with
    | nil => exact w.elim
    | cons r1 rr => exact ⟨_, _, rfl, A, M, _, ρ, _, r1, rs, m, w, fun ρ1 M1 σ1 H1 A1 q1 s1 m1 rs1 => ⟨A1, M1, _, ρ1, Qd, rr.stp m s1, rs1, m1, q1, fun ρ2 M2 σ2 H2 A2 q2 s2 m2 rs2 => hq ρ2 M2 σ2 H2 A2 q2 (s1.trans s2) m2 rs2⟩⟩
  | .nil, _ :: _, h => by cases h
  | .cons _ _, [], h => by cases h
  | .v _, _, h => by cases h
  | .t _, _, h => by cases h
  | .sub _ _, _, h => by cases h
end

/-! statements -/
variable {t v x y z : Expr} {a b c : IE} {es : List Expr} {xs : IE}
theorem sole_of (h : (noComp v || isTup t || celT X.env.scope t) = true) {l : Nat} : swapsWithSole [t] v l X.env = pure false := by
  cases ht : isTup t with
  | true => cases t <;> first | (cases ht; done) | (cases v <;> rfl)
  | false =>
    rw [ht, Bool.or_false] at h
    cases hv : noComp v with
    | true => cases v <;> first | rfl | cases hv
    | false =>
      rw [hv, Bool.false_or] at h
      cases t with
      | Name y py =>
        have hk : X.env.scope.names.lookup y = some .cell := by
          unfold celT at h
          dsimp only at h
          split at h
          · assumption
          · cases h
        have e : (X.env.kindOf y == some NameKind.local) = false := by
          show (X.env.scope.names.lookup y == some NameKind.local) = false
          rw [hk]
          rfl
        cases v <;> first | rfl | (unfold swapsWithSole swapsWith; simp [e])
      | _ => cases h
theorem names_short {env : Env} {f : Expr → Option Str} (h1 : ∀ e, (∀ id p, e ≠ .Name id p) → f e = none) (h2 : ∀ id p, lnB env.scope id = false → f (.Name id p) = none) : ∀ ts : List Expr, plainNames env.scope ts = false → (ts.filterMap f).length < ts.length
  | [], h => by cases h
  | t :: ts, h => by
    have hle := List.length_filterMap_le f ts
    have low : f t = none → ((t :: ts).filterMap f).length < (t :: ts).length := fun e => by
      rw [List.filterMap_cons, e, List.length_cons]
      show (ts.filterMap f).length < _
      omega
    cases t with
    | Name x px =>
      unfold plainNames at h
      by_cases hx : lnB env.scope x = true
      · rw [hx, Bool.true_and] at h
        have ih := names_short h1 h2 ts h
        rw [List.filterMap_cons]
        split
        · simp only [List.length_cons]; omega
        · simp only [List.length_cons]; omega
      · exact low (h2 _ _ (by simpa using hx))
    | _ => exact low (h1 _ (by intro id p z; cases z))
theorem noswap_of {N : List Str} {g : IG} (hg : chkG N fs g X.env.scope t = true) (h : noSwap X.env.scope t v = true) : swappedStores [t] v X.env = pure none := by
  unfold swappedStores
  cases t with
  | Tuple ts n1 p1 =>
    cases v with
    | Tuple vs n2 p2 =>
      simp only [noSwap] at h
      rw [Bool.or_eq_true, Bool.or_eq_true] at h
      dsimp only
      rcases h with (h | h) | h
      · simp only [h, Bool.true_or, if_true]
      · split
        · rfl
        · split
          · rfl
          · rw [if_pos ?_]
            · rw [Bool.or_eq_true]
              left
              simp only [bne_iff_ne, ne_eq]
              refine Nat.ne_of_lt (names_short (env := X.env) (fun e he => ?_) (fun id p hl => ?_) ts (by simpa using h))
              · cases e <;> first | rfl | exact (he _ _ rfl).elim
              · have e : (X.env.kindOf id == some NameKind.local) = false := by
                  show (X.env.scope.names.lookup id == some NameKind.local) = false
                  unfold lnB at hl
                  cases q : X.env.scope.names.lookup id with
                  | none => rfl
                  | some kd =>
                    rw [q] at hl
                    cases kd <;> first | rfl | cases hl
                simp only [e, Bool.false_and, Bool.false_eq_true, if_false]
      · split
        · rfl
        · split
          · rfl
          · split
            · rfl
            · rfl
    | _ => rfl
  | List ts p => cases g <;> cases hg
  | _ => rfl
end
end DL

set_option Elab.async false
set_option linter.all false
set_option maxRecDepth 100000
set_option maxHeartbeats 8000000
namespace DL
open PySem L2 PySem.Spec PyProof.Rows
section
variable {X : Cx} {W : WX} {G : Gam} {fs : List String} {k : Nat} {pos p q : Pos} {t v x y z : Expr} {a b c : IE} {es : List Expr} {xs : IE}
theorem q_asg (gs : GoodS G fs k W X) {g : IG} (h1 : chkG X.N fs g X.env.scope t = true) (h2 : (noComp v || isTup t || celT X.env.scope t) = true) (h3 : noSwap X.env.scope t v = true) (h4 : chkE X.N fs a X.env.scope v = true) : PS X (.Assign [t] v pos) (rdS G X.K W (.asg g a)) := by
  refine (ps_asg ((snd G fs k a).e X gs.g v h4) (g_snd gs g t h1) (sole_of h2) (noswap_of h1 h3) (by rw [asg_tgt h1]; rfl)).weak fun D σ H ⟨A, ρ, M, E, hs, hm, hw, hl⟩ => ?_
  exact ⟨A, ρ, M, _, hs, hm, hw, fun d M1 v1 H1 A1 q1 s1 m1 r1 => ⟨A1, M1, d, ρ, _, r1, hs.stp hm s1, m1, q1, fun ρ2 M2 σ2 H2 A2 q2 s2 m2 rs2 => hl.nx ρ2 M2 σ2 H2 A2 q2 (s1.trans s2) m2 rs2⟩⟩
theorem lnB_ok {sc : Scope} {n : Str} (h : lnB sc n = true) : sc.names.lookup n = some .local := by
  unfold lnB at h
  split at h
  · assumption
  · cases h
theorem q_lc (gs : GoodS G fs k W X) {g : IG} (h1 : lcOk X.N X.env.scope g t v = true) (hcd : notCd a = true) (h4 : chkE X.N fs a X.env.scope v = true) : PS X (.Assign [t] v pos) (rdS G X.K W (.asg g a)) := by
  unfold lcOk at h1
  split at h1
  · rename_i i y py e gns scope p
    simp only [Bool.and_eq_true, decide_eq_true_eq, Bool.not_eq_true'] at h1
    obtain ⟨⟨⟨h1, h2⟩, h3⟩, h5⟩ := h1
    cases a with
    | comp elt vs tgs iter cond =>
      unfold chkE at h4
      split at h4
      · rename_i el tg it ifs scope' q
        obtain ⟨p', e'⟩ := asComp_eq q
        cases e'
        have P := p_comp (snd G fs k elt).e (snd G fs k iter).i (snd G fs k cond).c gs.g h4
        have hq : cold fs = true := by simp only [Bool.and_eq_true] at h4; exact h4.1.1.1.1
        refine (ps_setLc (gs.g.calm hq) gs.g.nd h1 (lnB_ok h2) (sw_true gs.kd (lnB_ok h2) (by rw [h3]; exact beq_self_eq_true _) h5) P.it_ P.bl P.g_ P.c_ P.e_ (fset P.ns)).weak fun D σ H ⟨A, ρ, M, E, hs, hm, hw, hl⟩ => ?_
        rw [P.ow]
        refine lc_read P.tg_ ⟨A, ρ, M, _, hs, hm, hw, fun d M1 v1 H1 A1 q1 s1 m1 r1 => ?_⟩
        exact hl.nx _ M1 _ H1 A1 q1 s1 m1 ((hs.stp hm s1).set r1 i)
      · cases h4
    | compd elt vs tgs i cond => cases hcd
    | _ => cases h4
  · cases h1
theorem kind_of {n : Str} (h : lnB X.env.scope n = true) : (X.env.kindOf n == some NameKind.local) = true := by
  show (X.env.scope.names.lookup n == some NameKind.local) = true
  rw [lnB_ok h]
  rfl
theorem bk_of (gs : GoodS G fs k W X) : X.env.blockKind = .function := by
  unfold Env.blockKind
  rw [gs.kd]
  rfl
theorem any_star2 {f : Expr → Bool} (hf : ∀ e, noStar e = true → f e = false) : ∀ l : List Expr, (∀ e ∈ l, noStar e = true) → l.any f = false
  | [], _ => rfl
  | e :: r, h => by
    rw [List.any_cons, hf e (h e List.mem_cons_self), any_star2 hf r fun e he => h e (List.mem_cons_of_mem _ he)]
    rfl
theorem q_par (gs : GoodS G fs k W X) (hq : cold fs = true) {is : List Nat} {ts vs : List Expr} {n1 n2 : Nat} (h1 : parOk X.N X.env.scope is ts vs = true) (h2 : chkA X.N fs xs X.env.scope vs = true) : PS X (.Assign [.Tuple ts n1 p] (.Tuple vs n2 q) pos) (rdS G X.K W (.par is xs)) := by
  have ha := (snd G fs k xs).a X gs.g vs h2
  match is, ts, vs, h1, ha with
  | [i, j], [.Name x px, .Name y py], [e1, e2], h1, ha =>
    simp only [parOk, Bool.and_eq_true, decide_eq_true_eq, Bool.not_eq_true'] at h1
    obtain ⟨⟨⟨⟨⟨⟨⟨⟨⟨⟨hi, hj⟩, hij⟩, hx⟩, hy⟩, hln⟩, hxy⟩, s1⟩, s2⟩, f1⟩, f2⟩ := h1
    have hw : swappedStores [.Tuple [.Name x px, .Name y py] n1 p] (.Tuple [e1, e2] n2 q) X.env = pure (some [x, y]) := by
      unfold swappedStores
      dsimp only
      rw [if_neg (by rw [bk_of gs]; simp), if_neg ?_]
      · simp only [List.filterMap_cons, List.filterMap_nil, List.head?_cons, Option.map_some, Option.getD_some, kind_of hx, kind_of hy, Bool.true_and, Expr.pos, beq_self_eq_true, if_true, hln]
        rw [if_neg ?_, if_neg (by rw [f1]; decide), if_neg (by rw [f2]; decide)]
        · have : ([x, y] : List Str).eraseDups.length = 2 := by
            rw [List.eraseDups_cons]
            have e : ([y].filter fun b => !b == x) = [y] := by simp [Ne.symm hxy]
            rw [e]
            rfl
          simp [this]
      · rw [any_star2 (fun e he => by cases e <;> first | rfl | cases he) [e1, e2] (by intro e he; simp at he; rcases he with rfl | rfl <;> assumption)]
        decide
    refine (ps_par (gs.g.calm hq) gs.g.nd hi hj hij (lnB_ok hx) (lnB_ok hy) ha hw).weak fun D σ H ⟨A, ρ, M, E, hs, hm, hw, hl⟩ => ⟨A, ρ, M, _, hs, hm, hw, fun ds M1 vs H1 A1 q1 s1 m1 r1 => ?_⟩
    match ds, vs, q1, r1 with
    | [d1, d2], _, q1, .cons ra (.cons rb .nil) =>
      exact ⟨_, _, rfl, hl.nx _ M1 _ H1 A1 q1 s1 m1 (((hs.stp hm s1).set ra i).set rb j)⟩
  | [i, j, l], [.Name x px, .Name y py, .Name z pz], [e1, e2, e3], h1, ha =>
    simp only [parOk, Bool.and_eq_true, decide_eq_true_eq, Bool.not_eq_true'] at h1
    obtain ⟨⟨⟨⟨⟨⟨⟨⟨⟨⟨⟨⟨⟨⟨⟨⟨⟨⟨hi, hj⟩, hll⟩, hij⟩, hil⟩, hjl⟩, hx⟩, hy⟩, hz⟩, hln⟩, hln2⟩, hxy⟩, hxz⟩, hyz⟩, s1⟩, s2⟩, s3⟩, f1⟩, f2⟩ := h1
    have hw : swappedStores [.Tuple [.Name x px, .Name y py, .Name z pz] n1 p] (.Tuple [e1, e2, e3] n2 q) X.env = pure (some [x, y, z]) := by
      unfold swappedStores
      dsimp only
      rw [if_neg (by rw [bk_of gs]; simp), if_neg ?_]
      · simp only [List.filterMap_cons, List.filterMap_nil, List.head?_cons, Option.map_some, Option.getD_some, kind_of hx, kind_of hy, kind_of hz, Bool.true_and, Expr.pos, beq_self_eq_true, if_true, hln, hln2]
        rw [if_neg ?_, if_neg (by rw [f1]; decide), if_neg (by rw [f2]; decide)]
        · have : ([x, y, z] : List Str).eraseDups.length = 3 := by
            rw [List.eraseDups_cons]
            have e : ([y, z].filter fun b => !b == x) = [y, z] := by simp [Ne.symm hxy, Ne.symm hxz]
            rw [e, List.eraseDups_cons]
            have e : ([z].filter fun b => !b == y) = [z] := by simp [Ne.symm hyz]
            rw [e]
            rfl
          simp [this]
      · rw [any_star2 (fun e he => by cases e <;> first | rfl | cases he) [e1, e2, e3] (by intro e he; simp at he; rcases he with rfl | rfl | rfl <;> assumption)]
        decide
    refine (ps_par3 (gs.g.calm hq) gs.g.nd hi hj hll hij hil hjl (lnB_ok hx) (lnB_ok hy) (lnB_ok hz) ha hw).weak fun D σ H ⟨A, ρ, M, E, hs, hm, hw, hl⟩ => ⟨A, ρ, M, _, hs, hm, hw, fun ds M1 vs H1 A1 q1 s1 m1 r1 => ?_⟩
    match ds, vs, q1, r1 with
    | [d1, d2, d3], _, q1, .cons ra (.cons rb (.cons rc .nil)) =>
      exact ⟨_, _, _, rfl, hl.nx _ M1 _ H1 A1 q1 s1 m1 ((((hs.stp hm s1).set ra i).set rb j).set rc l)⟩
theorem q_ex (gs : GoodS G fs k W X) (h2 : noComp v = true) (h4 : chkE X.N fs a X.env.scope v = true) : PS X (.Expr v pos) (rdS G X.K W (.ex a)) := by
  refine (ps_expr ((snd G fs k a).e X gs.g v h4) (by cases v <;> first | rfl | cases h2)).weak fun D σ H ⟨A, ρ, M, E, hs, hm, hw, hl⟩ => ?_
  exact ⟨A, ρ, M, _, hs, hm, hw, fun d M1 v1 H1 A1 q1 s1 m1 r1 => hl.nx ρ M1 σ H1 A1 q1 s1 m1 (hs.stp hm s1)⟩
theorem q_ret (gs : GoodS G fs k W X) (h4 : chkE X.N fs a X.env.scope v = true) : PS X (.Return (some v) pos) (rdS G X.K W (.ret a)) :=
  (ps_ret ((snd G fs k a).e X gs.g v h4)).weak fun D σ H ⟨A, ρ, M, E, hs, hm, hw, hl⟩ => ⟨A, ρ, M, _, hs, hm, hw, hl.rt⟩
theorem q_retn : PS X (.Return none pos) (rdS G X.K W .retn) := ps_retN.weak fun D σ H ⟨A, ρ, M, E, hs, hm, hw, hl⟩ => hl.rt.now hm .non hw
theorem q_pass : PS X (.Pass pos) (rdS G X.K W .pass) := ps_pass.weak fun D σ H ⟨A, ρ, M, E, hs, hm, hw, hl⟩ => hl.nx ρ M σ H A hw (Stp.refl H A) hm hs
theorem q_brk : PS X (.Break pos) (rdS G X.K W .brk) := ps_break.weak fun D σ H ⟨A, ρ, M, E, hs, hm, hw, hl⟩ => hl.bk ρ M σ H A hw (Stp.refl H A) hm hs
theorem q_cnt : PS X (.Continue pos) (rdS G X.K W .cnt) := ps_continue.weak fun D σ H ⟨A, ρ, M, E, hs, hm, hw, hl⟩ => hl.ct ρ M σ H A hw (Stp.refl H A) hm hs
variable {s1 s2 : IS} {b1 b2 : List Stmt}
theorem q_ite (gs : GoodS G fs k W X) (h1 : chkT X.N fs a X.env.scope x = true) (i1 : PSs X b1 (rdS G X.K W s1)) (i2 : PSs X b2 (rdS G X.K W s2)) : PS X (.If x b1 b2 pos) (rdS G X.K W (.ite a s1 s2)) :=
  (ps_if ((snd G fs k a).t X gs.g x h1).1 i1 i2).weak fun D σ H ⟨A, ρ, M, E, hs, hm, hw, hl⟩ => ⟨A, ρ, M, _, hs, hm, hw, fun bb M1 H1 A1 q1 s1 m1 => by
    cases bb with
    | true => exact ⟨A1, ρ, M1, E, hs.stp hm s1, m1, q1, hl.stp s1⟩
    | false => exact ⟨A1, ρ, M1, E, hs.stp hm s1, m1, q1, hl.stp s1⟩⟩
theorem po_of (gs : GoodS G fs k W X) : PassesOwn (model X.prog X.w) X.A X.env X.xe := gs.po
theorem q_whl (gs : GoodS G fs k W X) (h1 : chkT X.N fs a X.env.scope x = true) (i1 : PSs X b1 (rdS G X.K W s1)) : PS X (.While x b1 [] pos) (rdS G X.K W (.whl a s1)) := by
  refine (ps_while (po_of gs) ((snd G fs k a).t X gs.g x h1).1 i1).weak fun D σ H ⟨A, ρ, M, E, hs, hm, ⟨W, ⟨m0, w0⟩, turn⟩, hl⟩ => ?_
  refine ⟨fun m σ' H' => ∃ A' ρ' M', Stp H A H' A' ∧ Rm X.K H' A' M' ∧ Rs X.K H' A' σ' ρ' ∧ W m ρ' M', ⟨m0, A, ρ, M, Stp.refl H A, hm, hs, w0⟩, ?_⟩
  rintro m σ1 H1 ⟨A1, ρ1, M1, st1, m1, rs1, w1⟩
  refine ⟨A1, ρ1, M1, _, rs1, m1, turn m ρ1 M1 w1, fun bb M2 H2 A2 q2 st2 m2 => ?_⟩
  have st12 := st1.trans st2
  cases bb with
  | false => exact hl.nx ρ1 M2 σ1 H2 A2 q2 st12 m2 (rs1.stp m1 st2)
  | true =>
    refine ⟨fun σ' H' => ∃ m', m' < m ∧ ∃ A' ρ' M', Stp H A H' A' ∧ Rm X.K H' A' M' ∧ Rs X.K H' A' σ' ρ' ∧ W m' ρ' M', fun σ' H' n => n, A2, ρ1, M2, _, rs1.stp m1 st2, m2, q2, ?_⟩
    refine ⟨fun ρ3 M3 σ3 H3 A3 ⟨m', lt, w⟩ st3 m3 rs3 => ⟨m', lt, A3, ρ3, M3, st12.trans st3, m3, rs3, w⟩, hl.rt.stp st12, fun ρ3 M3 σ3 H3 A3 q3 st3 m3 rs3 => hl.nx ρ3 M3 σ3 H3 A3 q3 (st12.trans st3) m3 rs3, fun ρ3 M3 σ3 H3 A3 ⟨m', lt, w⟩ st3 m3 rs3 => ⟨m', lt, A3, ρ3, M3, st12.trans st3, m3, rs3, w⟩, fun σ => LfW.stp (hl.xx σ) st12⟩
theorem q_for (gs : GoodS G fs k W X) (hq : cold fs = true) {g : IG} (h0 : noSet y = true) (h1 : chkG X.N fs g X.env.scope t = true) (h2 : tgI a t = true ∧ chkI X.N fs a X.env.scope y = true) (i1 : PSs X b1 (rdS G X.K W s1)) : PS X (.For t y b1 [] pos) (rdS G X.K W (.for_ g a s1)) := by
  refine (ps_for (po_of gs) (gs.g.calm hq) ((snd G fs k a).i X gs.g t y h2.1 h2.2) (g_snd gs g t h1) i1 (fset h0)).weak fun D σ H ⟨A, ρ, M, E, hs, hm, hw, hl⟩ => ?_
  refine ⟨A, ρ, M, _, hs, hm, hw, fun src M1 H1 A1 J ⟨xs, ex, Pv, p0, hst, htn, hend⟩ s1 m1 itr _ => ?_⟩
  refine ⟨fun i m σ' H' => m = xs.length - i ∧ i ≤ xs.length ∧ ∃ A' ρ' M', Stp H1 A1 H' A' ∧ Rm X.K H' A' M' ∧ Rs X.K H' A' σ' ρ' ∧ Pv i ρ' M', ⟨xs.length, by simp, Nat.zero_le _, A1, ρ, M1, Stp.refl H1 A1, m1, hs.stp hm s1, p0⟩, ?_⟩
  rintro i m σ2 H2 ⟨rfl, hi, A2, ρ2, M2, st2, m2, rs2, pv⟩
  have hit := hst i ρ2 M2 hi pv
  by_cases hlt : i < xs.length
  · refine .inr ⟨itr.go H2 A2 M2 xs i xs[i] st2 m2 hit (by simp [hlt]), fun σ' H' => ∃ A' ρ' M', Stp H1 A1 H' A' ∧ Rm X.K H' A' M' ∧ Rs X.K H' A' σ' ρ' ∧ Pv (i + 1) ρ' M', fun σ' H' n => ⟨xs.length - (i + 1), by omega, rfl, hlt, n⟩, fun w H3 hy => ?_⟩
    obtain ⟨st3, m3, r3⟩ := itr.yld H2 A2 M2 xs i xs[i] w H3 st2 m2 hit (by simp [hlt]) hy
    refine ⟨A2, M2, xs[i], ρ2, _, r3, rs2.stp m2 st3, m3, htn i xs[i] ρ2 M2 (by simp [hlt]) pv, fun ρ4 M4 σ4 H4 A4 q4 st4 m4 rs4 => ?_⟩
    have st14 := (st2.trans st3).trans st4
    refine ⟨A4, ρ4, M4, _, rs4, m4, q4, ?_⟩
    exact ⟨fun ρ5 M5 σ5 H5 A5 q5 st5 m5 rs5 => ⟨A5, ρ5, M5, st14.trans st5, m5, rs5, q5⟩, hl.rt.stp (s1.trans st14), fun ρ5 M5 σ5 H5 A5 q5 st5 m5 rs5 => hl.nx ρ5 M5 σ5 H5 A5 q5 ((s1.trans st14).trans st5) m5 rs5,
      fun ρ5 M5 σ5 H5 A5 q5 st5 m5 rs5 => ⟨A5, ρ5, M5, st14.trans st5, m5, rs5, q5⟩, fun σ => LfW.stp (hl.xx σ) (s1.trans st14)⟩
  · have e : i = xs.length := by omega
    subst e
    exact .inl ⟨itr.stop H2 A2 M2 xs _ st2 m2 hit (Nat.le_refl _), hl.nx ρ2 M2 σ2 H2 A2 (hend ρ2 M2 pv) (s1.trans st2) m2 rs2⟩
theorem q_seq {st : Stmt} (i1 : PS X st (rdS G X.K W s1)) (i2 : PSs X b2 (rdS G X.K W s2)) : PSs X (st :: b2) (rdS G X.K W (.seq s1 s2)) :=
  (pss_cons i1 i2).weak fun D σ H ⟨A, ρ, M, E, hs, hm, hw, hl⟩ => ⟨A, ρ, M, _, hs, hm, hw, ⟨fun ρ1 M1 σ1 H1 A1 q1 st1 m1 rs1 => ⟨A1, ρ1, M1, E, rs1, m1, q1, hl.stp st1⟩, hl.rt, hl.bk, hl.ct, hl.xx⟩⟩
theorem q_skip : PSs X [] (rdS G X.K W .skip) := pss_nil.weak fun D σ H ⟨A, ρ, M, E, hs, hm, hw, hl⟩ => hl.nx ρ M σ H A hw (Stp.refl H A) hm hs
/-! with refusals -/
theorem q_asx (gs : GoodS G fs k W X) {g : IG} (h1 : chkG X.N fs g X.env.scope t = true) (h2 : (noComp v || isTup t || celT X.env.scope t) = true) (h3 : noSwap X.env.scope t v = true) (h4 : chkX X.N fs a X.env.scope v = true) : PS X (.Assign [t] v pos) (rdS G X.K W (.asx g a)) := by
  refine (ps_asg ((sndX G fs k a).e X W gs.g gs.tk v h4) (g_snd gs g t h1) (sole_of h2) (noswap_of h1 h3) (by rw [asg_tgt h1]; rfl)).weak fun D σ H ⟨A, ρ, M, E, hs, hm, hw, hl⟩ => ?_
  exact ⟨E.xx, A, ρ, M, _, hs, hm, hw, fun d M1 v1 H1 A1 q1 s1 m1 r1 => ⟨A1, M1, d, ρ, _, r1, hs.stp hm s1, m1, q1, fun ρ2 M2 σ2 H2 A2 q2 s2 m2 rs2 => hl.nx ρ2 M2 σ2 H2 A2 q2 (s1.trans s2) m2 rs2⟩, hl.xx σ⟩
theorem q_exx (gs : GoodS G fs k W X) (h2 : noComp v = true) (h4 : chkX X.N fs a X.env.scope v = true) : PS X (.Expr v pos) (rdS G X.K W (.exx a)) := by
  refine (ps_expr ((sndX G fs k a).e X W gs.g gs.tk v h4) (by cases v <;> first | rfl | cases h2)).weak fun D σ H ⟨A, ρ, M, E, hs, hm, hw, hl⟩ => ?_
  exact ⟨E.xx, A, ρ, M, _, hs, hm, hw, fun d M1 v1 H1 A1 q1 s1 m1 r1 => hl.nx ρ M1 σ H1 A1 q1 s1 m1 (hs.stp hm s1), hl.xx σ⟩
theorem q_rtx (gs : GoodS G fs k W X) (h4 : chkX X.N fs a X.env.scope v = true) : PS X (.Return (some v) pos) (rdS G X.K W (.rtx a)) :=
  (ps_ret ((sndX G fs k a).e X W gs.g gs.tk v h4)).weak fun D σ H ⟨A, ρ, M, E, hs, hm, hw, hl⟩ => ⟨E.xx, A, ρ, M, _, hs, hm, hw, hl.rt, hl.xx σ⟩
theorem q_rsx (gs : GoodS G fs k W X) {c : String} {e : Expr} (hq : cold fs = true) (h0 : keyR c ∈ fs) (h1 : rKeys.lookup (keyR c) = some c) (h2 : glB X.env.scope (Str.ofString c) = true) (h3 : (Str.ofString c == ("__debug__" : Str)) = false) (h4 : chkA X.N fs xs X.env.scope (e :: es) = true) :
    PS X (.Raise (some (.Call (.Name (Str.ofString c) p) (e :: es) [] q)) none pos) (rdS G X.K W (.rsx c xs)) := by
  obtain ⟨xa, gm, j, fd, ps, hj, hb, F⟩ := (gs.g.fn _ h0).rn c h1
  refine ⟨fun pins s σ H D I h => ?_⟩
  have hd := I.ok.hd (gs.g.calm hq)
  have rm : Room (j + 1) X.A := (gs.g.room.room hd).mono hj
  obtain ⟨a0, r0, rfl, h5⟩ := chkA_tail h4
  refine (ps_raise (gs.g.calm hq) gs.tk (pmk_oex (ds := []) (dvs := []) xa.cc.oex xa.cc.ini xa.cc.tyi F rm hb .nil pass0 (glB_ok h2) gm ((snd G fs k _).a X gs.g _ h4) h3 (star_of (chkA_star h4)) (any_star h5))).run pins s σ H D I ?_
  obtain ⟨A, ρ, M, E, hs, hm, hw, hl⟩ := h
  refine ⟨A, ρ, M, _, hs, hm, hw, fun ds M1 vs H1 A1 ⟨hn, q1⟩ s1 m1 r1 => mk_wish (K := X.K) (c := c) (vs := vs) (H1 := H1) (Q := fun cls d H' => W cls d σ H') (by rw [r1.length]; exact hn) fun d nd => ?_⟩
  have s2 := stp_upd (o := .xd ((xFlds c).zip vs).reverse) m1 nd
  exact hl.xx σ ρ c ds M1 _ A1 _ _ q1 (s1.trans s2) (rm_upd m1 nd) ((hs.stp hm s1).stp m1 s2) ⟨xa, d, vs, rfl, rfl, upd_same, by rw [r1.length]; exact hn, r1.stp m1 s2⟩
theorem rs_setO {K : Frg} {H : Hp} {A : List Addr} {σ : L2.St} {ρ : En} (r : Rs K H A σ ρ) {v : V} {d : D} (h : Rp K H A v d) (i : Option Nat) : Rs K H A (setO i σ v) (setI i ρ d) := by
  cases i with
  | none => exact r
  | some i => exact r.set h i
theorem rs_wipeO {K : Frg} {H : Hp} {A : List Addr} {σ : L2.St} {ρ : En} (r : Rs K H A σ ρ) (i : Option Nat) : Rs K H A (wipeO i σ) (wipeI i ρ) := by
  cases i with
  | none => exact r
  | some i => exact r.wipe1 i
theorem nmB_ok {i : Option Nat} {nm : Option Str} (h : nmB X.N X.env.scope i nm = true) : nmOk X i nm := by
  cases i <;> cases nm <;> simp only [nmB, Bool.and_eq_true, decide_eq_true_eq] at h
  · trivial
  · cases h
  · cases h
  · exact ⟨h.1, lnB_ok h.2⟩
abbrev noW : WX := fun _ _ _ _ => False
theorem q_try (gs : GoodS G fs k W X) {c : String} {nm : Option Str} {i : Option Nat} {b0 : Stmt} {p' : Pos} (h1 : exAll.contains c = true) (h2 : c ∈ fs) (h3 : glB X.env.scope (Str.ofString c) = true) (h4 : nmB X.N X.env.scope i nm = true)
    (ib : ∀ X' W', X'.N = X.N → X'.env = X.env → X'.K = X.K → GoodS G fs k W' X' → PSs X' b1 (rdS G X.K W' s1))
    (ih : ∀ X' W', X'.N = X.N → X'.env = X.env → X'.K = X.K → GoodS G ("#" :: fs) k W' X' → PSs X' (b0 :: b2) (rdS G X.K W' s2)) :
    PS X (.Try b1 [.ExceptHandler (some (.Name (Str.ofString c) p)) nm (b0 :: b2) p'] [] [] pos) (rdS G X.K W (.try_ s1 c i s2)) := by
  have Ec := (gs.g.fn c h2).en h1
  obtain ⟨d1, d2⟩ := ofS_ne c (by simpa using h1)
  have names : Names X (Str.ofString c) (clsX X.K c) := by
    refine ⟨glB_ok h3, d1, ?_⟩
    by_cases e : c = "ValueError"
    · have hm := Ec.bi e
      refine .inr ⟨hm, ?_, d2⟩
      subst e
      exact (by decide +kernel : bootBuiltins (Str.ofString "ValueError") = some (.type "ValueError"))
    · have hm := Ec.own e
      refine .inl ?_
      unfold clsX
      rw [if_neg e]
      exact hm
  refine (ps_tryD (tb := fun W' => rdS G X.K W' s1) (ts := rdS G X.K noW s2) gs.hs gs.hf gs.g.nd (nmB_ok h4) names gs.tk (fun W' pn xe tk po => ?_) fun a pn => ?_).weak fun D σ H ⟨A, ρ, M, E, hs, hm, hw, hl⟩ => ?_
  · exact ib (X.tr pn xe) W' rfl rfl rfl ⟨⟨gs.g.calm, gs.g.nd, gs.g.gd, gs.g.room, gs.g.bi, gs.g.fn⟩, gs.fn, gs.kd, po, gs.hs, gs.hf, tk⟩
  · refine ih (X.suite a pn) noW rfl rfl rfl ⟨⟨fun z => absurd z (by simp [cold]), gs.g.nd, gs.g.gd, ⟨gs.g.room.dp, gs.g.room.un⟩, gs.g.bi, fun f hf => ?_⟩, gs.fn, gs.kd, PassesOwn.never, gs.hs, gs.hf, fun u s' ⟨_, _, _, _, _, _, _, _, _, _, _, _, _, _, _, _, w⟩ => w.elim⟩
    rcases List.mem_cons.mp hf with rfl | hf
    · exact FnC.hash
    · exact gs.g.fn f hf
  · refine ⟨A, ρ, M, _, hs, hm, hw, hl.nx, hl.rt, hl.bk, hl.ct, fun σ' ρ' c1 fl M' H' A' cls d q st m' rs' ex => ?_⟩
    obtain ⟨xa, dx, vs, rfl, rfl, e1, hn, l⟩ := ex
    refine ⟨clsA X.K c1, dx, subX c1 c, rfl, rfl, (xa.al c (by simpa using h1) Ec.ok).exm, fun yes a na => ?_, fun no => ?_⟩
    · have q2 := q
      dsimp only at q2
      rw [if_pos yes] at q2
      have s2' := stp_upd (o := hx a (clsA X.K c1) dx) m' na
      have rp : Rp X.K (upd H' a (hx a (clsA X.K c1) dx)) A' (.ref a) (.exc c1 fl) := .exc xa upd_same (by rw [upd_ne (ne_of_none e1 na)]; exact e1) hn (l.stp m' s2')
      have s3 := st.trans s2'
      refine ⟨A', _, M', _, rs_setO (rs'.stp m' s2') rp i, rm_upd m' na, q2, fun ρ5 M5 σ5 H5 A5 q5 st5 m5 rs5 => hl.nx _ M5 _ H5 A5 q5 (s3.trans st5) m5 (rs_wipeO rs5 i), hl.rt.stp s3, fun ρ5 M5 σ5 H5 A5 q5 st5 m5 rs5 => hl.bk _ M5 _ H5 A5 q5 (s3.trans st5) m5 (rs_wipeO rs5 i),
        fun ρ5 M5 σ5 H5 A5 q5 st5 m5 rs5 => hl.ct _ M5 _ H5 A5 q5 (s3.trans st5) m5 (rs_wipeO rs5 i), fun σ5 ρ5 c5 f5 M5 H5 A5 cls5 d5 q5 _ _ _ _ => q5⟩
    · have q2 := q
      dsimp only at q2
      rw [if_neg (by rw [no]; decide)] at q2
      exact hl.xx σ' ρ' c1 fl M' H' A' _ _ q2 st m' rs' ⟨xa, dx, vs, rfl, rfl, e1, hn, l⟩
end
end DL

set_option Elab.async false
set_option linter.all false
set_option maxRecDepth 100000
set_option maxHeartbeats 8000000
namespace DL
open PySem L2 PySem.Spec PyProof.Rows
section
variable {G : Gam} {k : Nat}
theorem s_snd : ∀ (s : IS) {X : Cx} {W : WX} {fs : List String}, GoodS G fs k W X → (∀ b : List Stmt, chkS X.N fs X.env.scope s b = true → PSs X b (rdS G X.K W s)) ∧ (∀ st : Stmt, chk1 X.N fs X.env.scope s st = true → PS X st (rdS G X.K W s)) := by
  intro s
  induction s with
  | skip =>
    intro X W fs gs
    refine ⟨fun b h => ?_, fun st h => (by cases h)⟩
    cases b with
    | nil => exact q_skip
    | cons _ _ => cases h
  | seq s r hs hr =>
    intro X W fs gs
    refine ⟨fun b h => ?_, fun st h => (by cases h)⟩
    cases b with
    | nil => cases h
    | cons st rest =>
      simp only [chkS, Bool.and_eq_true] at h
      exact q_seq ((hs gs).2 st h.1) ((hr gs).1 rest h.2)
  | asg g e =>
    intro X W fs gs
    refine ⟨fun b h => (by cases b <;> cases h), fun st h => ?_⟩
    unfold chk1 at h
    split at h
    · rename_i t v q
      obtain ⟨p, rfl⟩ := asAsg_eq q
      simp only [Bool.and_eq_true] at h
      obtain ⟨h1, h2⟩ := h
      rw [Bool.or_eq_true] at h1
      rcases h1 with h1 | h1
      · rw [Bool.and_eq_true] at h1
        exact q_lc gs h1.1 h1.2 h2
      · simp only [Bool.and_eq_true] at h1
        exact q_asg gs h1.1.1 h1.1.2 h1.2 h2
    · cases h
  | par is xs =>
    intro X W fs gs
    refine ⟨fun b h => (by cases b <;> cases h), fun st h => ?_⟩
    unfold chk1 at h
    split at h
    · rename_i t v q
      obtain ⟨p, rfl⟩ := asAsg_eq q
      split at h
      · rename_i ts vs q1 q2
        obtain ⟨n1, p1, rfl⟩ := asTup_eq q1
        obtain ⟨n2, p2, rfl⟩ := asTup_eq q2
        simp only [Bool.and_eq_true] at h
        exact q_par gs h.1.1 h.1.2 h.2
      · cases h
    · cases h
  | aug _ _ _ => intro X W fs gs; exact ⟨fun b h => (by cases b <;> cases h), fun st h => (by cases h)⟩
  | ex e =>
    intro X W fs gs
    refine ⟨fun b h => (by cases b <;> cases h), fun st h => ?_⟩
    unfold chk1 at h
    split at h
    · rename_i v q
      obtain ⟨p, rfl⟩ := asEx_eq q
      simp only [Bool.and_eq_true] at h
      exact q_ex gs h.1 h.2
    · cases h
  | ret e =>
    intro X W fs gs
    refine ⟨fun b h => (by cases b <;> cases h), fun st h => ?_⟩
    unfold chk1 at h
    split at h
    · rename_i v q
      obtain ⟨p, rfl⟩ := asRet_eq q
      exact q_ret gs h
    · cases h
  | rse => intro X W fs gs; exact ⟨fun b h => (by cases b <;> cases h), fun st h => ⟨fun pins s σ H D I ⟨_, _, _, _, _, _, hw, _⟩ => False.elim hw⟩⟩
  | retn =>
    intro X W fs gs
    refine ⟨fun b h => (by cases b <;> cases h), fun st h => ?_⟩
    unfold chk1 at h
    split at h
    · rename_i q
      obtain ⟨p, rfl⟩ := asRet_eq q
      exact q_retn
    · cases h
  | pass =>
    intro X W fs gs
    refine ⟨fun b h => (by cases b <;> cases h), fun st h => ?_⟩
    unfold chk1 at h
    obtain ⟨p, rfl⟩ := asFlow_eq.1 (of_decide_eq_true h)
    exact q_pass
  | brk =>
    intro X W fs gs
    refine ⟨fun b h => (by cases b <;> cases h), fun st h => ?_⟩
    unfold chk1 at h
    obtain ⟨p, rfl⟩ := asFlow_eq.2.1 (of_decide_eq_true h)
    exact q_brk
  | cnt =>
    intro X W fs gs
    refine ⟨fun b h => (by cases b <;> cases h), fun st h => ?_⟩
    unfold chk1 at h
    obtain ⟨p, rfl⟩ := asFlow_eq.2.2 (of_decide_eq_true h)
    exact q_cnt
  | ite t a b ha hb =>
    intro X W fs gs
    refine ⟨fun b h => (by cases b <;> cases h), fun st h => ?_⟩
    unfold chk1 at h
    split at h
    · rename_i c x y q
      obtain ⟨p, rfl⟩ := asIf_eq q
      simp only [Bool.and_eq_true] at h
      exact q_ite gs h.1.1 ((ha gs).1 x h.1.2) ((hb gs).1 y h.2)
    · cases h
  | whl t b hb =>
    intro X W fs gs
    refine ⟨fun b h => (by cases b <;> cases h), fun st h => ?_⟩
    unfold chk1 at h
    split at h
    · rename_i c x q
      obtain ⟨p, rfl⟩ := asWhl_eq q
      simp only [Bool.and_eq_true] at h
      exact q_whl gs h.1 ((hb gs).1 x h.2)
    · cases h
  | for_ g it b hb =>
    intro X W fs gs
    refine ⟨fun b h => (by cases b <;> cases h), fun st h => ?_⟩
    unfold chk1 at h
    split at h
    · rename_i t i x q
      obtain ⟨p, rfl⟩ := asFor_eq q
      simp only [Bool.and_eq_true] at h
      exact q_for gs h.1.1.1.1 h.1.1.1.2 h.1.1.2 h.1.2 ((hb gs).1 x h.2)
    · cases h
  | rsx c xs =>
    intro X W fs gs
    refine ⟨fun b h => (by cases b <;> cases h), fun st h => ?_⟩
    unfold chk1 at h
    split at h
    · rename_i x e es q
      obtain ⟨p, p2, p3, rfl⟩ := asRaise_eq q
      simp only [Bool.and_eq_true, decide_eq_true_eq, Bool.not_eq_true', List.contains_iff_mem] at h
      obtain ⟨⟨⟨⟨⟨⟨hq, h0⟩, h1⟩, rfl⟩, h2⟩, h3⟩, h4⟩ := h
      exact q_rsx gs hq h0 h1 h2 h3 h4
    · cases h
  | asx g e =>
    intro X W fs gs
    refine ⟨fun b h => (by cases b <;> cases h), fun st h => ?_⟩
    unfold chk1 at h
    split at h
    · rename_i t v q
      obtain ⟨p, rfl⟩ := asAsg_eq q
      simp only [Bool.and_eq_true] at h
      exact q_asx gs h.1.1.1 h.1.1.2 h.1.2 h.2
    · cases h
  | exx e =>
    intro X W fs gs
    refine ⟨fun b h => (by cases b <;> cases h), fun st h => ?_⟩
    unfold chk1 at h
    split at h
    · rename_i v q
      obtain ⟨p, rfl⟩ := asEx_eq q
      simp only [Bool.and_eq_true] at h
      exact q_exx gs h.1 h.2
    · cases h
  | rtx e =>
    intro X W fs gs
    refine ⟨fun b h => (by cases b <;> cases h), fun st h => ?_⟩
    unfold chk1 at h
    split at h
    · rename_i v q
      obtain ⟨p, rfl⟩ := asRet_eq q
      exact q_rtx gs h
    · cases h
  | try_ b c i h hb hh =>
    intro X W fs gs
    refine ⟨fun b h => (by cases b <;> cases h), fun st h => ?_⟩
    unfold chk1 at h
    split at h
    · rename_i body x nm s0 r q
      obtain ⟨p, p2, p3, rfl⟩ := asTry_eq q
      simp only [Bool.and_eq_true, decide_eq_true_eq] at h
      obtain ⟨⟨⟨⟨⟨⟨h1, h2⟩, rfl⟩, h3⟩, h4⟩, h5⟩, h6⟩ := h
      refine q_try gs h1 (by simpa using h2) h3 h4 (fun X' W' e1 e2 e3 g' => ?_) fun X' W' e1 e2 e3 g' => ?_
      · have z := (hb g').1 body (by rw [e1, e2]; exact h5)
        rw [e3] at z
        exact z
      · have z := (hh g').1 (s0 :: r) (by rw [e1, e2]; exact h6)
        rw [e3] at z
        exact z
    · cases h
end
end DL

set_option Elab.async false
set_option linter.all false
set_option maxRecDepth 100000
set_option maxHeartbeats 8000000
namespace DL
open PySem L2 PySem.Spec PyProof.Rows
/-! defs -/
def startD (n : Nat) (ds : List D) : En := ds.map some ++ List.replicate n none
def bodyE (Q : Kn) : DE := { nx := fun _ M => Q .non M, rt := Q }
/-- .. of a def that may refuse -/
def bodyX (Q : Kn) : DE := { nx := fun _ M => Q .non M, rt := Q, xx := fun _ c fs M => Q (.exn c fs) M }
theorem no_takes {X : Cx} : Takes X noW := fun u s' ⟨_, _, _, _, _, _, _, _, _, _, _, _, _, _, _, _, w⟩ => w.elim
section
variable {P : Program} {w : World} {K : Frg} {mg : Str → Option Value} {base : Heap} {G : Gam} {fs : List String} {k : Nat}
theorem getV_start : ∀ (ds : List D) (n i : Nat) (d : D), getV (startD n ds) i = some d → ds[i]? = some d
  | [], n, i, d, h => by
    exfalso
    induction n generalizing i with
    | zero => simp [startD, getV] at h
    | succ n ih =>
      cases i with
      | zero => simp [startD, getV, List.replicate] at h
      | succ i => exact ih i (by simpa [startD, getV, List.replicate] using h)
  | x :: ds, n, 0, d, h => by simpa [startD, getV] using h
  | x :: ds, n, i + 1, d, h => by
    have := getV_start ds n i d (by simpa [startD, getV] using h)
    simpa using this
theorem rs_start {H : Hp} {A : List Addr} {N : List Str} {vs : List V} {ds : List D} (r : RpL K H A vs ds) : Rs K H A (L2.start N vs) (startD (N.length - ds.length) ds) := by
  refine ⟨by simp [L2.start, startD, r.length], fun i d h => ?_⟩
  have h2 := getV_start ds _ i d h
  obtain ⟨v, h3, h4⟩ := r.get h2
  refine ⟨v, ?_, h4⟩
  unfold L2.start
  have hi : i < (vs.map some).length := by rw [List.length_map]; exact (List.getElem?_eq_some_iff.mp h3).1
  rw [List.getElem?_append_left hi, List.getElem?_map, h3]
  rfl
/-- THE RULE for a def: its text is the tree, the tree keeps the promise -/
theorem fn_mkG {x qual : Str} {st : Stmt} {f : Addr} {fd : FuncData} {N ps : List Str} {S : DSpec} {body : IS} (F : FunD K x qual (defArgs st) (defBody st) (defScope st) [] [] f fd) (Sc : FnScope N ps (defScope st)) (hchk : chkS N fs (defScope st) body (defBody st) = true)
    (bi : ∀ x ∈ bNames, mg (Str.ofString x) = none) (hf : ∀ f ∈ fs, FnC G P w K mg base k f)
    (len : ∀ ds M Q, S ds M Q → ds.length = ps.length) (hb : ∀ ds M Q, S ds M Q → wpS G body (bodyE Q) (startD (N.length - ds.length) ds) M) :
    FnG P w K mg base (k + 1) f fd ps S := by
  obtain ⟨oc, od, dV, kV, doc, pm, an, cdv, ct, osl, rfl, lk, hcd, _, _⟩ := F.ex
  refine ⟨len, fun A outer s H args us vs Ad ds M Q κ hg hr e0 hbn r rd m hS hl => ?_⟩
  have inK : K.In s.heap := e0.mod.kin.keeps
    fun b o e => (e0.bs b o e).1
  have free : s.heap.NoLimit := e0.mod.nolimit.keeps
    fun b o e => (e0.bs b o e).1
  have hlen : vs.length = ps.length := by rw [rd.length]; exact len ds M Q hS
  refine codeAny_call_function hr.depth (inK _ _ lk) rfl Sc.co Sc.gen rfl
    (PySem.W.codeRec_of inK hcd) (hbn _ _ _ _ ?_)
  refine wpAny_newFunctionEnv_cells Sc.kind (fun ⟨n, v⟩ hy => ?_) fun env he s1 ic => ?_
  · rcases Sc.par n (List.of_mem_zip hy).1 with q | q
    · exact .inl q
    · exact .inr ⟨q, PySem.W.cellsFrom_some _ _ _ (.inl q)⟩
  subst he
  refine ⟨free.keeps ic.toInCall.keep, codeAny_func ?_⟩
  have I : L2.Inv (cxOf CX0 P w K mg base N qual (defScope st) f cdv A outer s H E0) [] (L2.start N vs) H s1 :=
    inv_start Sc hr.hd e0 hlen r ic
  have good : GoodS G fs k noW (cxOf CX0 P w K mg base N qual (defScope st) f cdv A outer s H E0).nox :=
    ⟨⟨fun _ => rfl, Sc.nd, hg, RoomQ.of (hr.deeper _), bi, hf⟩, fun _ => rfl, Sc.kind, PassesOwn.never, rfl, rfl, no_takes⟩
  have run := ((s_snd body good).1 (defBody st) hchk).nox
  have lf : LfS K noW H Ad (bodyE Q) { nx := fun _ H' => κ .non H', rt := κ } :=
    ⟨fun ρ' M' σ' H' A' q st m' _ => hl .non M' .non H' A' q st m' .non, hl, fun _ _ _ _ _ q _ _ _ => q.elim, fun _ _ _ _ _ q _ _ _ => q.elim, fun _ _ _ _ _ _ _ _ _ q _ _ _ _ => q⟩
  refine wpAny_mono (run.run [] s1 (L2.start N vs) H _ I ⟨Ad, _, M, _, rs_start rd, m, hb ds M Q hS, lf⟩)
    (fun fl s' hs => ?_) fun e s' hs => hs
  have fin : ∀ {σ' : L2.St} {H' : Hp} {v : V} {u : Value}, L2.Inv (cxOf CX0 P w K mg base N qual (defScope st) f cdv A outer s H E0) [] σ' H' s' →
      RelV v u → κ v H' → CE outer P w H s κ u s' := fun J rv q => ⟨_, _, J.os, J.bare, J.base, J.hok, rv, q⟩
  cases fl with
  | next =>
    obtain ⟨σ', H', J, q⟩ := hs
    exact fin (v := V.non) (u := Value.none) J rfl q
  | ret u =>
    obtain ⟨v, σ', H', J, rv, q⟩ := hs
    exact fin J rv q
  | brk =>
    obtain ⟨_, _, _, q⟩ := hs
    exact q.elim
  | cont =>
    obtain ⟨_, _, _, q⟩ := hs
    exact q.elim
end
end DL

set_option Elab.async false
set_option linter.all false
set_option maxRecDepth 100000
set_option maxHeartbeats 8000000
namespace DL
open PySem L2 PySem.Spec PyProof.Rows
/-! the law's own call -/
theorem law_callG {P : Program} {w : World} {K : Frg} {mg mb : Str → Option Value} {k : Nat} {fa a : Addr} {fd : FuncData} {x : Str} {S : DSpec} {s : Shared} {vs : List Value} {ns : List Int}
    (KX : K.In s.heap) (hns : s.heap.Ns mainGlobals mg) (hb : s.heap.Ns builtinsNs mb) (hbb : ∀ x : Str, x ≠ "__name__" → mb x = bootBuiltins x) (hlim : s.heap.NoLimit) (hg : s.gens = #[])
    (ha : s.heap.get? a = some { cls := .type "list", data := .seq vs.toArray }) (hi : IntsAre vs ns) (hl : ns.length ≤ sizeLine) (hr : Room k callerA)
    (F : ∀ base : Heap, K.In base → base.Ns mainGlobals mg → FnG P w K mg base k fa fd [x] S) (hbind : ∀ (s : Shared) (u : Value), BindsTo s fd ⟨[u], []⟩ [(x, u)])
    (hS : S [.scr ns] [] fun d _ => d = .bl true) :
    codeAny (model P w) callerA (.call (.ref fa) ⟨[.ref a], []⟩) (fun r s' => r = .ok (.ret (.bool true)) ∧ OldK s.heap s'.heap ∧ s'.os = s.os ∧ AllBare s'.gens) s := by
  have rv := vals_ints hi
  have lenV := hi.length
  have main : ∀ H : Hp, (∀ b, H b = none ∨ (b = a ∧ ∃ o xs, H b = some (.frz o (.lst xs)))) → SqF K H a (ns.map V.int) → HOk P w H s.heap → (H a ≠ none → K.lookup a = none) →
      codeAny (model P w) callerA (.call (.ref fa) ⟨[.ref a], []⟩) (fun r s' => r = .ok (.ret (.bool true)) ∧ OldK s.heap s'.heap ∧ s'.os = s.os ∧ AllBare s'.gens) s := by
    intro H only sq ok noK
    have isA : ∀ {b : Addr} {u : HO}, H b = some u → b = a := fun {b u} e => by
      rcases only b with z | ⟨z, _⟩
      · rw [e] at z; cases z
      · exact z
    have plain : ∀ {b : Addr} {o : Obj} {es : Array DictEntry} {n : Nat}, s.heap.get? b = some o → o.data = .dict es n → H b = none := fun {b o es n} e d => by
      cases q : H b with
      | none => rfl
      | some u =>
        obtain rfl := isA q
        rw [ha] at e
        cases e
        have z : Data.seq vs.toArray _ = Data.dict es n := d
        cases z
    have keepNs : ∀ {b : Addr} {m : Str → Option Value}, s.heap.Ns b m → (hidT s.heap H).Ns b m := fun ⟨o, es, n, e, d, r⟩ =>
      ⟨o, es, n, hidT_get e (plain e d), d, r⟩
    have inB : K.In (hidT s.heap H) := fun b o e => hidT_get (KX b o e) (by
      cases q : H b with
      | none => rfl
      | some u =>
        obtain rfl := isA q
        rw [noK (by rw [q]; simp)] at e
        cases e)
    have mod : Mod K mg (hidT s.heap H) := ⟨inB, keepNs hns, ⟨mb, keepNs hb, hbb⟩,
      let ⟨mc, h1, h2⟩ := hlim; ⟨mc, keepNs h1, h2⟩⟩
    have e0 : Env0 P w K mg (hidT s.heap H) callerA [] s H :=
      ⟨rfl, mod, fun _ _ e => of_hidT e, Nat.le_of_eq (hidT_size _ _), trivial,
        fun b hb => (by cases (show b ∈ ([] : List Addr) from hb)), ok, .of_eq hg⟩
    have rm : Rm K H [] [] := ⟨rfl, List.nodup_nil, fun n ds e => by simp at e⟩
    refine codeAny_mono ((F _ inB (keepNs hns)).run callerA [] s H ⟨[.ref a], []⟩ [.ref a] [.ref a] [] [.scr ns] [] _
      (fun v _ => v = .bl true) rfl hr e0 (hbind s (.ref a)) (.cons rfl .nil) (.cons (.scr sq) .nil) rm hS ?_) fun r s' h => ?_
    · intro d M' v H' A' q st m r
      subst q
      cases r
      rfl
    · cases r with
      | error e => exact False.elim h
      | ok fl =>
        cases fl with
        | next => exact False.elim h
        | brk => exact False.elim h
        | cont => exact False.elim h
        | ret u =>
          obtain ⟨v, H', os, bare, un, ok', r', q⟩ := h
          have q' : v = .bl true := q
          subst q'
          obtain rfl : u = Value.bool true := r'
          refine ⟨rfl, OldK.of_keep fun b o e => ?_, os, bare⟩
          rcases only b with z | ⟨rfl, ob, xs, z⟩
          · exact un.keep b o e z (fun y => (by cases (show b ∈ ([] : List Addr) from y))) (by simp)
          · have z2 := un.frzs b ob _ z
            obtain ⟨e1, _⟩ := ok b _ z
            obtain ⟨e2, _⟩ := ok' b _ z2
            rw [e] at e1
            cases e1
            exact e2
  cases hk : K.lookup a with
  | some o =>
    have e := KX a o hk
    rw [ha] at e
    cases e
    exact main (fun _ => none) (fun _ => .inl rfl)
      (.inr (.inr ⟨_, vs.toArray, _, hk, rfl, rfl, rfl, by rw [List.size_toArray, lenV]; exact hl, by simpa using rv⟩))
      (fun b u z => by cases (show (none : Option HO) = some u from z)) fun z => absurd rfl z
  | none =>
    refine main (fun b => if b = a then some (.frz { cls := .type "list", data := .seq vs.toArray } (.lst (ns.map V.int))) else none)
      (fun b => ?_) (.inl ⟨{ cls := .type "list", data := .seq vs.toArray }, if_pos rfl⟩) (fun b u z => ?_) fun _ => hk
    · by_cases hba : b = a
      · exact .inr ⟨hba, _, _, if_pos hba⟩
      · exact .inl (if_neg hba)
    · by_cases hba : b = a
      · have z' := (if_pos hba).symm.trans z
        cases z'
        subst hba
        exact ⟨ha, by rw [List.length_map]; exact hl, vs, _, rv, ha⟩
      · cases (if_neg hba).symm.trans z
/-- the head's case, from the law's promise over data -/
theorem walkG {l : PySem.W.OpenLaw} {n k : Nat} {q : Program} {loose : List Str} {XP : (Str → Option Value) → Heap → Prop} {YP : World → Heap → Prop} {d : DefRec} {x : Str}
    (hn : l.most = some n) (hn2 : n ≤ sizeLine) (hdf : d.params.defaults = []) (hr : Room k callerA)
    (F : ∀ (w : World) (mg : Str → Option Value) (fa : Addr) (h : Heap), YP w h → h.Ns mainGlobals mg → mg d.name = some (.ref fa) →
      ∃ (K : Frg) (fd : FuncData) (S : DSpec), K.In h ∧ (∀ (s : Shared) (u : Value), BindsTo s fd ⟨[u], []⟩ [(x, u)]) ∧
        (∀ ns : List Int, ns.length ≤ n → S [.scr ns] [] fun d _ => d = .bl true) ∧
        ∀ base : Heap, K.In base → base.Ns mainGlobals mg → FnG l.prog w K mg base k fa fd [x] S) :
    PySem.W.WalkO q loose XP YP l.row.toRowW d [] (fun f vs => PySem.call f vs) := by
  refine Att.attach_call hn hdf fun w s0 s1 mg mb fa o pm cd doc a vs ns G Y ho hd hcd hmg hobj hints hlen hg => ?_
  obtain ⟨K, fd, S, KX, hb, hS, hF⟩ := F w mg fa _ Y G.T.g hmg
  exact law_callG KX G.T.g G.T.b G.T.builtins G.T.nolimit hg hobj hints (Nat.le_trans hlen hn2) hr hF hb (hS ns hlen)
end DL

set_option Elab.async false
set_option linter.all false
set_option maxRecDepth 100000
set_option maxHeartbeats 8000000
namespace DL
open PySem L2 PySem.Spec PyProof.Rows
section
variable {P : Program} {w : World} {K : Frg} {mg : Str → Option Value} {base : Heap} {G : Gam} {k : Nat}
theorem FnG.mono {j : Nat} {f : Addr} {fd : FuncData} {ps : List Str} {S : DSpec} (h : FnG P w K mg base k f fd ps S) (hj : k ≤ j) : FnG P w K mg base j f fd ps S :=
  ⟨h.len, fun A outer s H args us vs Ad ds M Q κ hg hr => h.run A outer s H args us vs Ad ds M Q κ hg (hr.mono hj)⟩
theorem FnG.none {f : Addr} {fd : FuncData} {ps : List Str} {S : DSpec} (h : ∀ ds M Q, ¬ S ds M Q) : FnG P w K mg base k f fd ps S :=
  ⟨fun ds M Q s => (h ds M Q s).elim, fun A outer s H args us vs Ad ds M Q κ _ _ _ _ _ _ _ hS _ => (h ds M Q hS).elim⟩
theorem bi_of {fa : List He.Fa} {fn : List He.DefD} {h : Heap} (X : K.In h) (Gn : h.Ns mainGlobals mg) (c : He.SaysD fa fn K)
    {j : Nat} (hf : fa.drop j = bNames.map fun x => He.Fa.free (Str.ofString x)) : ∀ x ∈ bNames, mg (Str.ofString x) = none := by
  intro x hx
  have hm : He.Fa.free (Str.ofString x) ∈ fa := List.mem_of_mem_drop (i := j) (by rw [hf]; exact List.mem_map_of_mem hx)
  obtain ⟨i, hi⟩ := List.mem_iff_getElem?.mp hm
  exact He.free_ok X Gn (c.fact i hi)
/-! constants -/
theorem CoD.tup {x : String} {zs : List Str} (g : mg (Str.ofString x) = some (.ref (He.ga K (Str.ofString x)))) (c : He.tupB K (Str.ofString x) (zs.map He.Dv.str) = true) (e : G x = S_con (.tup (zs.map D.str))) : CoD G K mg x := by
  refine ⟨_, .ref _, _, g, e, rfl, fun H A => ?_⟩
  have h := He.tupB_ok c H
  have e2 : (zs.map He.Dv.str).map (He.Dv.v K) = zs.map V.str := by rw [List.map_map]; rfl
  rw [e2] at h
  exact .tup (.inr ⟨h, zs, rfl⟩) (RpL.strs zs)
theorem CoD.str {x : String} {z : Str} (g : ∃ t, mg (Str.ofString x) = some (.str z t)) (e : G x = S_con (.str z)) : CoD G K mg x := by
  obtain ⟨t, g⟩ := g
  exact ⟨_, .str z, _, g, e, ⟨t, rfl⟩, fun H A => .str z⟩
theorem CoD.int {x : String} {i : Int} (g : ∃ t, mg (Str.ofString x) = some (.int i t)) (e : G x = S_con (.int i)) : CoD G K mg x := by
  obtain ⟨t, g⟩ := g
  exact ⟨_, .int i, _, g, e, ⟨t, rfl⟩, fun H A => .int i⟩
end
end DL

set_option Elab.async false
set_option linter.all false
set_option maxRecDepth 100000
set_option maxHeartbeats 8000000
namespace DL
open PySem L2 PySem.Spec PyProof.Rows
/-! a refusal's own __init__ -/
section
variable {P : Program} {w : World} {K : Frg} {mg : Str → Option Value} {base : Heap} {k : Nat}
end
section
variable {P : Program} {w : World} {K : Frg} {mg : Str → Option Value} {base : Heap} {k j : Nat} {f : Addr} {fd : FuncData} {ps : List Str} {S : DSpec}
theorem FnGX.mono (h : FnGX P w K mg base k f fd ps S) (hj : k ≤ j) : FnGX P w K mg base j f fd ps S :=
  ⟨h.len, fun A outer s H args us vs Ad ds M Q κ E hg hr => h.run A outer s H args us vs Ad ds M Q κ E hg (hr.mono hj)⟩
theorem FnGH.mono (h : FnGH P w K mg base k f fd ps S) (hj : k ≤ j) : FnGH P w K mg base j f fd ps S :=
  ⟨h.len, fun A outer s H args us vs Ad ds M Q κ hg hr => h.run A outer s H args us vs Ad ds M Q κ hg (hr.mono hj)⟩
end
end DL

set_option Elab.async false
set_option linter.all false
set_option maxRecDepth 100000
set_option maxHeartbeats 1000000
/-! turning about a point: plain sums -/
namespace Hull
open DL (Lx)
abbrev P := Int × Int
def cr (u v : P) : Int := u.1 * v.2 - u.2 * v.1
def dt (u v : P) : Int := u.1 * v.1 + u.2 * v.2
def sb (a b : P) : P := (a.1 - b.1, a.2 - b.2)
def tn (a b c : P) : Int := (b.1 - a.1) * (c.2 - a.2) - (b.2 - a.2) * (c.1 - a.1)
/-- a half of all ways, begun behind d, d itself without -/
def HP (d u : P) : Prop := 0 < cr d u ∨ (cr d u = 0 ∧ dt d u < 0)
theorem id1 (d u v w : P) : cr d v * cr u w = cr d w * cr u v + cr d u * cr v w := by unfold cr; grind
theorem id2 (d u w : P) : dt d d * cr u w = dt d u * cr d w - cr d u * dt d w := by unfold cr dt; grind
theorem cr_sw (u v : P) : cr u v = - cr v u := by unfold cr; grind
theorem dd_nn (d : P) : 0 ≤ dt d d := by
  unfold dt
  have a : 0 ≤ d.1 * d.1 := by rcases Int.le_total 0 d.1 with h | h; exact Int.mul_nonneg h h; exact Int.mul_nonneg_of_nonpos_of_nonpos h h
  have b : 0 ≤ d.2 * d.2 := by rcases Int.le_total 0 d.2 with h | h; exact Int.mul_nonneg h h; exact Int.mul_nonneg_of_nonpos_of_nonpos h h
  omega
theorem dd_pos {d u : P} (h : dt d u ≠ 0) : 0 < dt d d := by
  have nn := dd_nn d
  rcases Int.lt_or_eq_of_le nn with h' | h'
  · exact h'
  · exfalso
    apply h
    have a : 0 ≤ d.1 * d.1 := by rcases Int.le_total 0 d.1 with h | h; exact Int.mul_nonneg h h; exact Int.mul_nonneg_of_nonpos_of_nonpos h h
    have b : 0 ≤ d.2 * d.2 := by rcases Int.le_total 0 d.2 with h | h; exact Int.mul_nonneg h h; exact Int.mul_nonneg_of_nonpos_of_nonpos h h
    unfold dt at h'
    have e1 : d.1 = 0 := by
      have : d.1 * d.1 = 0 := by omega
      rcases Int.mul_eq_zero.mp this with h | h <;> exact h
    have e2 : d.2 = 0 := by
      have : d.2 * d.2 = 0 := by omega
      simpa [Int.mul_eq_zero] using this
    simp [dt, e1, e2]
theorem HP.nn {d u : P} (h : HP d u) : 0 ≤ cr d u := by rcases h with h | h <;> omega
theorem pos_of {a b : Int} (ha : 0 < a) (h : 0 < a * b) : 0 < b := by
  rcases Int.lt_trichotomy 0 b with h1 | h1 | h1
  · exact h1
  · subst h1; simp at h
  · have := Int.mul_neg_of_pos_of_neg ha h1; omega
theorem nn_of {a b : Int} (ha : 0 < a) (h : 0 ≤ a * b) : 0 ≤ b := by
  rcases Int.lt_or_le b 0 with h1 | h1
  · have := Int.mul_neg_of_pos_of_neg ha h1; omega
  · exact h1
/-- behind all: the last way of the half -/
theorem last_nn {d u w : P} (hu : HP d u) (hw : HP d w) (z : cr d w = 0) : 0 ≤ cr u w ∧ (0 < cr d u → 0 < cr u w) := by
  have hd : dt d w < 0 := by rcases hw with h | h <;> omega
  have pos := dd_pos (d := d) (u := w) (by omega)
  have e := id2 d u w
  rw [z, Int.mul_zero] at e
  have hu' := hu.nn
  constructor
  · refine nn_of pos ?_
    have := Int.mul_nonneg_of_nonpos_of_nonpos (a := - cr d u) (b := dt d w) (by omega) (by omega)
    rw [Int.neg_mul] at this
    omega
  · intro hp
    refine pos_of pos ?_
    have := Int.mul_pos_of_neg_of_neg (a := - cr d u) (b := dt d w) (by omega) (by omega)
    rw [Int.neg_mul] at this
    omega
theorem trans_le {d u v w : P} (hu : HP d u) (hv : HP d v) (hw : HP d w) (h1 : 0 ≤ cr u v) (h2 : 0 ≤ cr v w) : 0 ≤ cr u w := by
  have A := hu.nn; have B := hv.nn; have C := hw.nn
  rcases Int.lt_or_eq_of_le B with B | B
  · refine nn_of B ?_
    rw [id1]
    have := Int.mul_nonneg C h1
    have := Int.mul_nonneg A h2
    omega
  · have z : cr d w = 0 := by
      rcases Int.lt_or_eq_of_le C with C | C
      · have := (last_nn hw hv B.symm).2 C
        rw [cr_sw] at this; omega
      · exact C.symm
    exact (last_nn hu hw z).1
theorem trans_lt {d u v w : P} (hu : HP d u) (hv : HP d v) (hw : HP d w) (h1 : 0 ≤ cr u v) (h2 : 0 ≤ cr v w) (h3 : 0 < cr u v ∨ 0 < cr v w) : 0 < cr u w := by
  have A := hu.nn; have B := hv.nn; have C := hw.nn
  rcases Int.lt_or_eq_of_le B with B | B
  · by_cases hC : 0 < cr d w
    · by_cases hA : 0 < cr d u
      · refine pos_of B ?_
        rw [id1]
        have a1 := Int.mul_nonneg C h1
        have a2 := Int.mul_nonneg A h2
        rcases h3 with h3 | h3
        · have := Int.mul_pos hC h3; omega
        · have := Int.mul_pos hA h3; omega
      · have z : cr d u = 0 := by omega
        have := (last_nn hv hu z).2 B
        rw [cr_sw] at this; omega
    · have z : cr d w = 0 := by omega
      by_cases hA : 0 < cr d u
      · exact (last_nn hu hw z).2 hA
      · have z : cr d u = 0 := by omega
        have := (last_nn hv hu z).2 B
        rw [cr_sw] at this; omega
  · have z : cr d w = 0 := by
      rcases Int.lt_or_eq_of_le C with C | C
      · have := (last_nn hw hv B.symm).2 C
        rw [cr_sw] at this; omega
      · exact C.symm
    have hA : 0 < cr d u := by
      rcases Int.lt_or_eq_of_le A with A | A
      · exact A
      · exfalso
        have a1 := (last_nn hv hu A.symm).1
        have a2 := (last_nn hw hv B.symm).1
        have a3 := (last_nn hu hv B.symm).1
        have a4 := (last_nn hv hw z).1
        rw [cr_sw] at a1 a2
        omega
    exact (last_nn hu hw z).2 hA
/-- alike ways of a half -/
theorem par {d u w : P} (hu : HP d u) (hw : HP d w) (z : cr u w = 0) : ∃ A C : Int, 0 < A ∧ 0 < C ∧ A * w.1 = C * u.1 ∧ A * w.2 = C * u.2 := by
  have A := hu.nn; have C := hw.nn
  by_cases hA : 0 < cr d u
  · by_cases hC : 0 < cr d w
    · refine ⟨cr d u, cr d w, hA, hC, ?_, ?_⟩ <;> (clear hu hw hA hC A C; unfold cr at *; grind)
    · have := (last_nn hu hw (by omega)).2 hA
      omega
  · have zu : cr d u = 0 := by omega
    by_cases hC : 0 < cr d w
    · have := (last_nn hw hu zu).2 hC
      rw [cr_sw] at this; omega
    · have zw : cr d w = 0 := by omega
      refine ⟨- dt d u, - dt d w, by rcases hu with h | h <;> omega, by rcases hw with h | h <;> omega, ?_, ?_⟩ <;> (clear hu hw hA hC A C; unfold cr dt at *; grind)
/-- between two places, x first -/
def Bt (a b s : P) : Prop := (¬ Lx s a ∧ ¬ Lx b s) ∨ (¬ Lx s b ∧ ¬ Lx a s)
def ap (a b : P) : Int := (b.1 - a.1) * (b.1 - a.1) + (b.2 - a.2) * (b.2 - a.2)
theorem scale1 {A C x y : Int} (hA : 0 < A) (hC : 0 < C) (le : C ≤ A) (e : A * x = C * y) : x = y ∧ A = C ∨ C < A ∧ ((0 < y ∧ 0 < x ∧ x < y) ∨ (y = 0 ∧ x = 0) ∨ (y < 0 ∧ x < 0 ∧ y < x)) := by
  rcases Int.lt_or_eq_of_le le with le | le
  · refine .inr ⟨le, ?_⟩
    rcases Int.lt_trichotomy 0 y with h | h | h
    · refine .inl ⟨h, ?_, ?_⟩
      · exact pos_of hA (by rw [e]; exact Int.mul_pos hC h)
      · refine Int.lt_of_mul_lt_mul_left (a := A) ?_ (by omega)
        rw [e]; exact Int.mul_lt_mul_of_pos_right le h
    · refine .inr (.inl ⟨h.symm, ?_⟩)
      subst h
      rw [Int.mul_zero] at e
      rcases Int.mul_eq_zero.mp e with h | h
      · omega
      · exact h
    · refine .inr (.inr ⟨h, ?_, ?_⟩)
      · have := pos_of (b := -x) hA (by rw [Int.mul_neg, e, ← Int.mul_neg]; exact Int.mul_pos hC (by omega))
        omega
      · refine Int.lt_of_mul_lt_mul_left (a := A) ?_ (by omega)
        rw [e]
        have := Int.mul_lt_mul_of_pos_right le (show 0 < -y by omega)
        rw [Int.mul_neg, Int.mul_neg] at this
        omega
  · refine .inl ⟨?_, le.symm⟩
    subst le
    exact Int.eq_of_mul_eq_mul_left (by omega) e
theorem scale_le {A C : Int} {u w : P} (hA : 0 < A) (hC : 0 < C) (e1 : A * w.1 = C * u.1) (e2 : A * w.2 = C * u.2) (hu : 0 < dt u u) (le : dt w w ≤ dt u u) : C ≤ A := by
  rcases Int.lt_or_le A C with h | h
  · exfalso
    have k : A * A * dt w w = C * C * dt u u := by
      unfold dt
      calc A * A * (w.1 * w.1 + w.2 * w.2) = (A * w.1) * (A * w.1) + (A * w.2) * (A * w.2) := by grind
        _ = (C * u.1) * (C * u.1) + (C * u.2) * (C * u.2) := by rw [e1, e2]
        _ = _ := by grind
    have k1 : A * A < C * C := by
      have a := Int.mul_lt_mul_of_pos_left h hA
      have b := Int.mul_lt_mul_of_pos_right h hC
      omega
    have k2 := Int.mul_le_mul_of_nonneg_left le (show 0 ≤ A * A from Int.mul_nonneg (by omega) (by omega))
    have k3 := Int.mul_lt_mul_of_pos_right k1 hu
    omega
  · exact h
theorem par_bt {d h b s : P} (hb : HP d (sb b h)) (hs : HP d (sb s h)) (z : tn h b s = 0) (le : ap h s ≤ ap h b) : Bt h b s := by
  have z' : cr (sb b h) (sb s h) = 0 := z
  obtain ⟨A, C, hA, hC, e1, e2⟩ := par hb hs z'
  have pos : 0 < dt (sb b h) (sb b h) := by
    rcases Int.lt_or_eq_of_le (dd_nn (sb b h)) with h' | h'
    · exact h'
    · exfalso
      have nz := @dd_pos (sb b h) d
      have e : dt (sb b h) d = 0 := Classical.byContradiction fun q => by have := nz q; omega
      rcases hb with hb | hb
      · have i2 := id2 (sb b h) d (sb b h)
        have i3 : cr (sb b h) (sb b h) = 0 := by unfold cr; grind
        rw [← h', i3] at i2
        have i4 : dt (sb b h) (sb b h) = 0 := h'.symm
        have i5 : (sb b h).1 = 0 ∧ (sb b h).2 = 0 := by
          have a : 0 ≤ (sb b h).1 * (sb b h).1 := by rcases Int.le_total 0 (sb b h).1 with h | h; exact Int.mul_nonneg h h; exact Int.mul_nonneg_of_nonpos_of_nonpos h h
          have b' : 0 ≤ (sb b h).2 * (sb b h).2 := by rcases Int.le_total 0 (sb b h).2 with h | h; exact Int.mul_nonneg h h; exact Int.mul_nonneg_of_nonpos_of_nonpos h h
          unfold dt at i4
          constructor
          · have : (sb b h).1 * (sb b h).1 = 0 := by omega
            simpa [Int.mul_eq_zero] using this
          · have : (sb b h).2 * (sb b h).2 = 0 := by omega
            simpa [Int.mul_eq_zero] using this
        unfold cr at hb
        rw [i5.1, i5.2] at hb
        simp at hb
      · have : dt d (sb b h) = dt (sb b h) d := by unfold dt; grind
        omega
  have lle : dt (sb s h) (sb s h) ≤ dt (sb b h) (sb b h) := le
  have q := scale_le hA hC e1 e2 pos lle
  have s1 := scale1 hA hC q e1
  have s2 := scale1 hA hC q e2
  unfold sb at s1 s2
  simp only at s1 s2
  unfold Bt Lx
  omega
/-- the lexical half -/
def LP (u : P) : Prop := 0 < u.1 ∨ (u.1 = 0 ∧ 0 < u.2)
theorem LP.hp {u : P} (h : LP u) : HP (0, -1) u := by
  unfold HP cr dt; unfold LP at h; simp only; omega
theorem lp_of {a b : P} (h : Lx a b) : LP (sb b a) := by unfold LP sb; unfold Lx at h; simp only; omega
theorem dt_neg {u w : P} (hu : LP u) (hw : LP (-w.1, -w.2)) (z : cr u w = 0) : dt u w < 0 := by
  unfold LP at hu hw
  unfold cr at z
  unfold dt
  simp only at hw
  rcases hu with hu | ⟨hu, hu2⟩
  · have w1 : w.1 < 0 := by
      rcases hw with h | ⟨h, h2⟩
      · omega
      · exfalso
        have e : w.1 = 0 := by omega
        rw [e, Int.mul_zero] at z
        have : u.1 * w.2 = 0 := by omega
        rcases Int.mul_eq_zero.mp this with h | h <;> omega
    have k : u.1 * (u.1 * w.1 + u.2 * w.2) = (u.1 * u.1 + u.2 * u.2) * w.1 := by
      clear hw hu w1
      grind
    have p1 := Int.mul_pos hu hu
    have p2 : 0 ≤ u.2 * u.2 := by rcases Int.le_total 0 u.2 with h | h; exact Int.mul_nonneg h h; exact Int.mul_nonneg_of_nonpos_of_nonpos h h
    have p3 := Int.mul_neg_of_pos_of_neg (show 0 < u.1 * u.1 + u.2 * u.2 by omega) w1
    rw [← k] at p3
    rcases Int.lt_or_le (u.1 * w.1 + u.2 * w.2) 0 with h | h
    · exact h
    · have := Int.mul_nonneg (show 0 ≤ u.1 by omega) h
      omega
  · rw [hu] at z ⊢
    simp only [Int.zero_mul, Int.zero_sub, Int.zero_add] at z ⊢
    have : u.2 * w.1 = 0 := by omega
    rcases Int.mul_eq_zero.mp this with h | h
    · omega
    · exact Int.mul_neg_of_pos_of_neg hu2 (by omega)
/-- the next corner behind a -/
def Nx (S : List P) (a b : P) : Prop := a ≠ b ∧ b ∈ S ∧ ∀ s ∈ S, 0 < tn a b s ∨ (tn a b s = 0 ∧ Bt a b s)
theorem tn_sw (a b c : P) : tn a c b = - tn a b c := by unfold tn; grind
theorem tn_sw2 (a b c : P) : tn c b a = - tn a b c := by unfold tn; grind
theorem ne_or {a b : P} (h : a ≠ b) : a.1 ≠ b.1 ∨ a.2 ≠ b.2 := by
  rcases Classical.em (a.1 = b.1) with h1 | h1
  · right; intro h2; exact h (Prod.ext h1 h2)
  · exact .inl h1
theorem nx_uniq {S : List P} {a b b' : P} (h : Nx S a b) (h' : Nx S a b') : b = b' := by
  have i1 := h.2.2 b' h'.2.1
  have i2 := h'.2.2 b h.2.1
  rw [tn_sw] at i2
  have z1 : Bt a b b' := by rcases i1 with i | i; omega; exact i.2
  have z2 : Bt a b' b := by rcases i2 with j | j; omega; exact j.2
  have n1 := ne_or h.1
  have n2 := ne_or h'.1
  unfold Bt Lx at z1 z2
  exact Prod.ext (by omega) (by omega)
theorem nx_inj {S : List P} {a a' b : P} (ha : a ∈ S) (ha' : a' ∈ S) (h : Nx S a b) (h' : Nx S a' b) : a = a' := by
  have i1 := h.2.2 a' ha'
  have i2 := h'.2.2 a ha
  rw [tn_sw2] at i2
  have z1 : Bt a b a' := by rcases i1 with i | i; omega; exact i.2
  have z2 : Bt a' b a := by rcases i2 with j | j; omega; exact j.2
  have n1 := ne_or h.1
  have n2 := ne_or h'.1
  unfold Bt Lx at z1 z2
  exact Prod.ext (by omega) (by omega)
/-- all places from a corner on lie in a half -/
theorem half_min {S : List P} {h : P} (hm : ∀ s ∈ S, ¬ Lx s h) : ∀ s ∈ S, s ≠ h → HP (0, -1) (sb s h) := fun s hs ne => by
  refine LP.hp (lp_of ?_)
  have := hm s hs
  have n := ne_or ne
  unfold Lx at *
  omega
theorem half_nx {S : List P} {a h : P} (ha : a ∈ S) (hn : Nx S a h) : ∀ s ∈ S, s ≠ h → HP (sb h a) (sb s h) := fun s hs ne => by
  have e : tn a h s = cr (sb h a) (sb s h) := by unfold tn cr sb; grind
  rcases hn.2.2 s hs with h1 | ⟨h1, h2⟩
  · exact .inl (by rw [← e]; exact h1)
  · rw [e] at h1
    refine .inr ⟨h1, ?_⟩
    have n1 := ne_or hn.1
    have n2 := ne_or ne
    by_cases l : Lx a h
    · refine dt_neg (lp_of l) ?_ h1
      unfold LP sb
      unfold Bt Lx at h2
      unfold Lx at l
      simp only
      omega
    · have k : dt (sb a h) (sb h s) < 0 := by
        refine dt_neg (u := sb a h) (w := sb h s) ?_ ?_ ?_
        · refine lp_of ?_
          unfold Lx at *; omega
        · unfold LP sb
          unfold Bt Lx at h2
          unfold Lx at l
          simp only
          omega
        · unfold cr sb at *; grind
      have e2 : dt (sb a h) (sb h s) = dt (sb h a) (sb s h) := by unfold dt sb; grind
      omega
end Hull

set_option Elab.async false
set_option linter.all false
set_option maxRecDepth 100000
set_option maxHeartbeats 1000000
/-! rims: wrapped round, and by two chains -/
namespace Hull
open DL (Lx)
def Ed (r : P → P → Prop) : List P → Prop
  | a :: b :: l => r a b ∧ Ed r (b :: l)
  | _ => True
theorem Ed.tail {r : P → P → Prop} {a : P} {l : List P} (h : Ed r (a :: l)) : Ed r l := by
  cases l with
  | nil => trivial
  | cons b l => exact h.2
theorem ed_app {r : P → P → Prop} {a : P} : ∀ {l : List P} {m : List P}, Ed r (l ++ [a]) → Ed r (a :: m) → Ed r (l ++ a :: m)
  | [], _, _, h => h
  | [b], _, h, h' => ⟨h.1, h'⟩
  | b :: c :: l, m, h, h' => ⟨h.1, ed_app (l := c :: l) h.2 h'⟩
theorem ed_mem {r : P → P → Prop} : ∀ {l m : List P} {a b : P}, Ed r (l ++ a :: b :: m) → r a b
  | [], _, _, _, h => h.1
  | _ :: l, m, a, b, h => ed_mem (l := l) (m := m) h.tail
theorem Ed.imp {r r' : P → P → Prop} (h : ∀ a b, r a b → r' a b) : ∀ {l : List P}, Ed r l → Ed r' l
  | [], _ => trivial
  | [_], _ => trivial
  | _ :: b :: l, e => ⟨h _ _ e.1, Ed.imp h (l := b :: l) e.2⟩
/-- a rim of places, written from the least one on -/
def Rim (S R : List P) : Prop := ∃ a l, R = a :: l ∧ a ∈ S ∧ (∀ s ∈ S, ¬ Lx s a) ∧ ((l = [] ∧ ∀ s ∈ S, s = a) ∨ (l ≠ [] ∧ (a :: l).Nodup ∧ Ed (Nx S) (a :: (l ++ [a]))))
theorem ed_same {S : List P} {a : P} : ∀ {x : P} {l l' : List P}, a ∉ l → a ∉ l' → Ed (Nx S) (x :: (l ++ [a])) → Ed (Nx S) (x :: (l' ++ [a])) → l = l'
  | x, [], [], _, _, _, _ => rfl
  | x, [], y :: m, _, h', e, e' => (h' (by rw [nx_uniq e.1 e'.1]; simp)).elim
  | x, y :: m, [], h, _, e, e' => (h (by rw [nx_uniq e'.1 e.1]; simp)).elim
  | x, y :: m, y' :: m', h, h', e, e' => by
    have q : y = y' := nx_uniq e.1 e'.1
    subst q
    rw [ed_same (x := y) (fun z => h (by simp [z])) (fun z => h' (by simp [z])) e.2 e'.2]
theorem lx_eq {a b : P} (h : ¬ Lx a b) (h' : ¬ Lx b a) : a = b := by
  unfold Lx at *
  exact Prod.ext (by omega) (by omega)
theorem Rim.uniq {S R R' : List P} (h : Rim S R) (h' : Rim S R') : R = R' := by
  obtain ⟨a, l, rfl, ha, hm, hc⟩ := h
  obtain ⟨a', l', rfl, ha', hm', hc'⟩ := h'
  have e : a = a' := lx_eq (hm' a ha) (hm a' ha')
  subst e
  rcases hc with ⟨rfl, all⟩ | ⟨ne, nd, ed⟩
  · rcases hc' with ⟨rfl, _⟩ | ⟨ne', nd', ed'⟩
    · rfl
    · exfalso
      cases l' with
      | nil => exact ne' rfl
      | cons b m => exact ed'.1.1 (all b ed'.1.2.1).symm
  · rcases hc' with ⟨rfl, all⟩ | ⟨ne', nd', ed'⟩
    · exfalso
      cases l with
      | nil => exact ne rfl
      | cons b m => exact ed.1.1 (all b ed.1.2.1).symm
    · rw [ed_same (List.nodup_cons.mp nd).1 (List.nodup_cons.mp nd').1 ed ed']
theorem Nx.congr {S S' : List P} (h : ∀ s, s ∈ S ↔ s ∈ S') {a b : P} (n : Nx S a b) : Nx S' a b := ⟨n.1, (h b).mp n.2.1, fun s hs => n.2.2 s ((h s).mpr hs)⟩
theorem Rim.congr {S S' R : List P} (h : ∀ s, s ∈ S ↔ s ∈ S') (r : Rim S R) : Rim S' R := by
  obtain ⟨a, l, rfl, ha, hm, hc⟩ := r
  refine ⟨a, l, rfl, (h a).mp ha, fun s hs => hm s ((h s).mpr hs), ?_⟩
  rcases hc with ⟨e, all⟩ | ⟨ne, nd, ed⟩
  · exact .inl ⟨e, fun s hs => all s ((h s).mpr hs)⟩
  · exact .inr ⟨ne, nd, ed.imp fun _ _ n => n.congr h⟩
theorem ed_sub {S : List P} : ∀ {l : List P} {a b : P}, Ed (Nx S) (a :: l) → b ∈ l → b ∈ S
  | c :: l, a, b, e, h => by
    rcases List.mem_cons.mp h with rfl | h
    · exact e.1.2.1
    · exact ed_sub (l := l) (a := c) e.2 h
theorem Rim.sub {S R : List P} (r : Rim S R) : ∀ x ∈ R, x ∈ S := by
  obtain ⟨a, l, rfl, ha, hm, hc⟩ := r
  intro x hx
  rcases List.mem_cons.mp hx with rfl | hx
  · exact ha
  · rcases hc with ⟨rfl, _⟩ | ⟨_, _, ed⟩
    · cases hx
    · exact ed_sub ed (by simp [hx])
/-- a rim is the rim of whatever lies between its corners and its cloud -/
theorem Rim.mid {S R T : List P} (r : Rim S R) (h1 : ∀ x ∈ R, x ∈ T) (h2 : ∀ x ∈ T, x ∈ S) : Rim T R := by
  obtain ⟨a, l, rfl, ha, hm, hc⟩ := r
  refine ⟨a, l, rfl, h1 a (by simp), fun s hs => hm s (h2 s hs), ?_⟩
  rcases hc with ⟨e, all⟩ | ⟨ne, nd, ed⟩
  · exact .inl ⟨e, fun s hs => all s (h2 s hs)⟩
  · refine .inr ⟨ne, nd, ?_⟩
    have go : ∀ {m : List P} {x : P}, (∀ y ∈ m, y ∈ T) → Ed (Nx S) (x :: m) → Ed (Nx T) (x :: m) := by
      intro m
      induction m with
      | nil => intro x _ _; trivial
      | cons y m ih => intro x hy e; exact ⟨⟨e.1.1, hy y (by simp), fun s hs => e.1.2.2 s (h2 s hs)⟩, ih (fun z hz => hy z (by simp [hz])) e.2⟩
    exact go (fun y hy => by
      rcases List.mem_append.mp hy with h | h
      · exact h1 y (by simp [h])
      · rw [List.mem_singleton.mp h]; exact h1 a (by simp)) ed
theorem Rim.self {S R : List P} (r : Rim S R) : Rim R R := r.mid (fun _ h => h) r.sub

/-! wrapping -/
/-- the best of those looked at -/
def Bst (T : List P) (h : P) (o : Option P) : Prop := match o with
  | none => ∀ s ∈ T, s = h
  | some b => b ∈ T ∧ b ≠ h ∧ ∀ s ∈ T, s ≠ h → 0 < tn h b s ∨ (tn h b s = 0 ∧ ap h s ≤ ap h b)
/-- one look -/
def look (h : P) (o : Option P) (p : P) : Option P := if p = h then o else match o with
  | none => some p
  | some b => if tn h b p < 0 ∨ (tn h b p = 0 ∧ ap h b < ap h p) then some p else some b
theorem tn_cr (h a b : P) : tn h a b = cr (sb a h) (sb b h) := rfl
theorem bst_look {T : List P} {h : P} {o : Option P} {p d : P} (hd : ∀ s ∈ T ++ [p], s ≠ h → HP d (sb s h)) (b : Bst T h o) : Bst (T ++ [p]) h (look h o p) := by
  unfold look
  by_cases e : p = h
  · rw [if_pos e]
    cases o with
    | none =>
      intro s hs
      rcases List.mem_append.mp hs with h1 | h1
      · exact b s h1
      · rw [List.mem_singleton.mp h1]; exact e
    | some b' =>
      obtain ⟨h1, h2, h3⟩ := b
      refine ⟨by simp [h1], h2, fun s hs ne => ?_⟩
      rcases List.mem_append.mp hs with h4 | h4
      · exact h3 s h4 ne
      · exact (ne (by rw [List.mem_singleton.mp h4]; exact e)).elim
  · rw [if_neg e]
    have hp := hd p (by simp) e
    cases o with
    | none =>
      refine ⟨by simp, e, fun s hs ne => ?_⟩
      rcases List.mem_append.mp hs with h4 | h4
      · exact (ne (b s h4)).elim
      · rw [List.mem_singleton.mp h4]
        refine .inr ⟨?_, Int.le_refl _⟩
        unfold tn; grind
    | some b' =>
      obtain ⟨h1, h2, h3⟩ := b
      have hb := hd b' (by simp [h1]) h2
      have zz : ∀ x, tn h x x = 0 := fun x => by unfold tn; grind
      simp only
      split
      · rename_i c
        refine ⟨by simp, e, fun s hs ne => ?_⟩
        rcases List.mem_append.mp hs with h4 | h4
        · have hs' := hd s hs ne
          have pb : 0 ≤ cr (sb p h) (sb b' h) := by
            rw [← tn_cr, tn_sw]; omega
          rcases h3 s h4 ne with h5 | ⟨h5, h6⟩
          · refine .inl ?_
            rw [tn_cr] at h5 ⊢
            exact trans_lt hp hb hs' pb (by omega) (.inr h5)
          · rcases c with c | ⟨c, c2⟩
            · refine .inl ?_
              rw [tn_cr] at h5 ⊢
              refine trans_lt hp hb hs' pb (by omega) (.inl ?_)
              rw [← tn_cr, tn_sw]; omega
            · refine .inr ⟨?_, by omega⟩
              have k1 : 0 ≤ tn h p s := by
                rw [tn_cr]; exact trans_le hp hb hs' pb (by rw [← tn_cr]; omega)
              have k2 : 0 ≤ tn h s p := by
                rw [tn_cr]
                exact trans_le hs' hb hp (by rw [← tn_cr, tn_sw]; omega) (by rw [← tn_cr]; omega)
              rw [tn_sw] at k2
              omega
        · rw [List.mem_singleton.mp h4]
          exact .inr ⟨zz p, Int.le_refl _⟩
      · rename_i c
        refine ⟨by simp [h1], h2, fun s hs ne => ?_⟩
        rcases List.mem_append.mp hs with h4 | h4
        · exact h3 s h4 ne
        · rw [List.mem_singleton.mp h4]
          have := not_or.mp c
          by_cases q : tn h b' p = 0
          · exact .inr ⟨q, by have := not_and.mp this.2 q; omega⟩
          · exact .inl (by omega)
theorem bst_nx {S : List P} {h b d : P} (hd : ∀ s ∈ S, s ≠ h → HP d (sb s h)) (k : Bst S h (some b)) : Nx S h b := by
  obtain ⟨h1, h2, h3⟩ := k
  refine ⟨fun z => h2 z.symm, h1, fun s hs => ?_⟩
  by_cases e : s = h
  · subst e
    refine .inr ⟨by unfold tn; grind, ?_⟩
    unfold Bt Lx; omega
  · rcases h3 s hs e with h4 | ⟨h4, h5⟩
    · exact .inl h4
    · exact .inr ⟨h4, par_bt (hd b h1 h2) (hd s hs e) h4 h5⟩
def best (S : List P) (h : P) : Option P := S.foldl (look h) none
theorem best_ok {S : List P} {h d : P} (hd : ∀ s ∈ S, s ≠ h → HP d (sb s h)) : Bst S h (best S h) := by
  have go : ∀ (U T : List P) (o : Option P), Bst T h o → (∀ s ∈ T ++ U, s ≠ h → HP d (sb s h)) → Bst (T ++ U) h (U.foldl (look h) o) := by
    intro U
    induction U with
    | nil => intro T o b _; simpa using b
    | cons p U ih =>
      intro T o b hh
      have := ih (T ++ [p]) (look h o p) (bst_look (d := d) (fun s hs => hh s (by simp at hs ⊢; rcases hs with h | h <;> simp [h])) b) (by simpa using hh)
      simpa using this
  simpa [best] using go S [] none (fun _ h => by cases h) (by simpa using hd)
/-- a rim on its way: written from the least place on, h last -/
def Way (S R : List P) : Prop := ∃ a l h, R = a :: l ∧ R.getLast? = some h ∧ a ∈ S ∧ (∀ s ∈ S, ¬ Lx s a) ∧ R.Nodup ∧ Ed (Nx S) R ∧ ∃ d, ∀ s ∈ S, s ≠ h → HP d (sb s h)
theorem way_0 {S : List P} {a : P} (ha : a ∈ S) (hm : ∀ s ∈ S, ¬ Lx s a) : Way S [a] := ⟨a, [], a, rfl, rfl, ha, hm, by simp, trivial, _, half_min hm⟩
theorem last_split {R : List P} {h : P} (e : R.getLast? = some h) : ∃ l, R = l ++ [h] := by
  rw [List.getLast?_eq_some_iff] at e
  exact e
theorem way_sub {S R : List P} (w : Way S R) : ∀ x ∈ R, x ∈ S := by
  obtain ⟨a, l, h, rfl, _, ha, _, _, ed, _⟩ := w
  intro x hx
  rcases List.mem_cons.mp hx with rfl | hx
  · exact ha
  · exact ed_sub ed hx
theorem way_none {S R : List P} {h : P} (w : Way S R) (hl : R.getLast? = some h) (b : best S h = none) : Rim S R := by
  obtain ⟨a, l, h', rfl, hl', ha, hm, nd, ed, d, hd⟩ := w
  rw [hl] at hl'; cases hl'
  have k := best_ok hd
  rw [b] at k
  have k' : ∀ s ∈ S, s = h := k
  refine ⟨a, l, rfl, ha, hm, .inl ⟨?_, fun s hs => by rw [k' s hs, k' a ha]⟩⟩
  cases l with
  | nil => rfl
  | cons b m => exact (ed.1.1 (by rw [k' a ha, k' b ed.1.2.1])).elim
theorem way_end {S R : List P} {h a : P} (w : Way S R) (hl : R.getLast? = some h) (h0 : R.head? = some a) (b : best S h = some a) : Rim S R := by
  obtain ⟨a', l, h', rfl, hl', ha, hm, nd, ed, d, hd⟩ := w
  rw [hl] at hl'; cases hl'
  cases h0
  have k := best_ok hd
  rw [b] at k
  have n := bst_nx hd k
  obtain ⟨m, em⟩ := last_split hl
  refine ⟨a, l, rfl, ha, hm, .inr ⟨?_, nd, ?_⟩⟩
  · intro z
    subst z
    simp at hl
    exact n.1 hl.symm
  · have : a :: (l ++ [a]) = m ++ h :: [a] := by rw [← List.cons_append, em]; simp
    rw [this]
    exact ed_app (by rw [← em]; exact ed) ⟨n, trivial⟩
theorem way_more {S R : List P} {h b a : P} (w : Way S R) (hl : R.getLast? = some h) (h0 : R.head? = some a) (hb : best S h = some b) (ne : b ≠ a) : Way S (R ++ [b]) := by
  have sub := way_sub w
  obtain ⟨a', l, h', rfl, hl', ha, hm, nd, ed, d, hd⟩ := w
  rw [hl] at hl'; cases hl'
  cases h0
  have k := best_ok hd
  rw [hb] at k
  have n := bst_nx hd k
  obtain ⟨m, em⟩ := last_split hl
  have hin : h ∈ S := sub h (by rw [em]; simp)
  refine ⟨a, l ++ [b], b, rfl, List.getLast?_concat, ha, hm, ?_, ?_, sb b h, half_nx hin n⟩
  · rw [List.nodup_append]
    refine ⟨nd, by simp, fun x hx y hy => ?_⟩
    rw [List.mem_singleton.mp hy]
    intro z
    subst z
    rcases List.mem_cons.mp hx with e | hx
    · exact ne e
    · obtain ⟨p, q, e⟩ := List.append_of_mem hx
      -- the one ahead of x in the list
      have : ∃ p' c, a :: l = p' ++ c :: x :: q := by
        rw [e]
        rcases List.eq_nil_or_concat p with rfl | ⟨p', c, rfl⟩
        · exact ⟨[], a, rfl⟩
        · exact ⟨a :: p', c, by simp⟩
      obtain ⟨p', c, e2⟩ := this
      rw [e2] at ed
      have nc := ed_mem ed
      have cin : c ∈ S := sub c (by rw [e2]; simp)
      have ch : c = h := nx_inj cin hin nc n
      subst ch
      rw [e2] at em nd
      have hlast : (p' ++ c :: x :: q).getLast? = some c := by rw [em]; simp
      have : c ∈ x :: q := by
        have : (p' ++ c :: x :: q).getLast? = (x :: q).getLast? := by
          rw [List.getLast?_append]
          cases hq : (x :: q).getLast? with
          | none => simp at hq
          | some z => simp [hq]
        rw [this] at hlast
        exact List.mem_of_getLast? hlast
      have nd2 := (List.nodup_append.mp nd).2.1
      exact (List.nodup_cons.mp nd2).1 this
  · rw [em, List.append_assoc]
    exact ed_app (by rw [← em]; exact ed) ⟨n, trivial⟩
theorem nodup_len {α : Type} [BEq α] [LawfulBEq α] : ∀ {R S : List α}, R.Nodup → (∀ x ∈ R, x ∈ S) → R.length ≤ S.length
  | [], _, _, _ => Nat.zero_le _
  | a :: R, S, nd, h => by
    have ha := h a (by simp)
    have := nodup_len (R := R) (S := S.erase a) (List.nodup_cons.mp nd).2 fun x hx => by
      have ne : x ≠ a := fun z => (List.nodup_cons.mp nd).1 (z ▸ hx)
      exact (List.mem_erase_of_ne ne).mpr (h x (by simp [hx]))
    have l := List.length_erase_of_mem ha
    have pos : 0 < S.length := List.length_pos_of_mem ha
    simp only [List.length_cons]
    omega
theorem way_len {S R : List P} (w : Way S R) : R.length ≤ S.length := by
  have sub := way_sub w
  obtain ⟨a, l, h, rfl, _, _, _, nd, _⟩ := w
  exact nodup_len nd sub
end Hull

set_option Elab.async false
set_option linter.all false
set_option maxRecDepth 100000
set_option maxHeartbeats 1000000
namespace Hull
open DL (Lx)
/-! chains: a pile, the last one on top -/
def pops (p : P) : List P → List P
  | t :: q :: r => if tn q t p ≤ 0 then pops p (q :: r) else t :: q :: r
  | l => l
def pile (S : List P) : List P := S.foldl (fun st p => p :: pops p st) []
theorem lx_tr {a b c : P} (h : Lx a b) (h' : Lx b c) : Lx a c := by unfold Lx at *; omega
theorem lx_nx {a b : P} (h : ¬ Lx a b) (ne : a ≠ b) : Lx b a := by
  have := ne_or ne
  unfold Lx at *; omega
def lowest (T : List P) (st : List P) : Prop := ∃ b, st.getLast? = some b ∧ b ∈ T ∧ ∀ s ∈ T, ¬ Lx s b
def neg (p : P) : P := (-p.1, -p.2)
theorem tn_neg (a b c : P) : tn (neg a) (neg b) (neg c) = tn a b c := by unfold tn neg; grind
theorem lx_neg {a b : P} : Lx (neg a) (neg b) ↔ Lx b a := by unfold Lx neg; simp only; omega
end Hull

set_option Elab.async false
set_option linter.all false
set_option maxRecDepth 100000
set_option maxHeartbeats 1000000
/-! ways by turn -/
namespace Hull
def Nzw (w : P) : Prop := w.1 ≠ 0 ∨ w.2 ≠ 0
/-! merging -/
def mg : List P → List P → List P
  | [], B => B
  | w :: A, B => B.takeWhile (fun b => decide (0 < cr b w)) ++ w :: mg A (B.dropWhile fun b => decide (0 < cr b w))
def lt (u v : P) : Prop := 0 < cr u v
/-- between two ways -/
theorem between {o t v : P} (W : 0 < cr o t) (nv : Nzw v) : ((cr o v = 0 ∧ 0 < dt o v) ∨ (cr t v = 0 ∧ 0 < dt t v) ∨ (0 < cr o v ∧ 0 < cr v t)) ↔ (0 ≤ cr v t ∧ 0 ≤ cr o v) := by
  have i1 : cr o t * dt o v = cr v t * dt o o + cr o v * dt o t := by unfold cr dt; grind
  have i2 : cr o t * dt t v = cr v t * dt o t + cr o v * dt t t := by unfold cr dt; grind
  have i3 : cr o t * v.1 = cr v t * o.1 + cr o v * t.1 := by unfold cr; grind
  have i4 : cr o t * v.2 = cr v t * o.2 + cr o v * t.2 := by unfold cr; grind
  have oo : 0 < dt o o := by
    rcases Int.lt_or_eq_of_le (dd_nn o) with h | h
    · exact h
    · have := dd_pos (d := o) (u := (-t.2, t.1)) (by unfold dt; unfold cr at W; simp only; rw [Int.mul_neg]; omega)
      omega
  have tt : 0 < dt t t := by
    rcases Int.lt_or_eq_of_le (dd_nn t) with h | h
    · exact h
    · have := dd_pos (d := t) (u := (-o.2, o.1)) (by unfold dt; unfold cr at W; simp only; rw [Int.mul_neg, Int.mul_comm t.2, Int.mul_comm t.1]; omega)
      omega
  have sw : cr t v = - cr v t := cr_sw t v
  constructor
  · rintro (⟨h1, h2⟩ | ⟨h1, h2⟩ | ⟨h1, h2⟩)
    · rw [h1, Int.zero_mul, Int.add_zero] at i1
      have p := Int.mul_pos W h2
      rw [i1, Int.mul_comm] at p
      have := pos_of oo p
      omega
    · have z : cr v t = 0 := by omega
      rw [z, Int.zero_mul, Int.zero_add] at i2
      have p := Int.mul_pos W h2
      rw [i2, Int.mul_comm] at p
      have := pos_of tt p
      omega
    · omega
  · rintro ⟨h1, h2⟩
    by_cases z : cr o v = 0
    · left
      refine ⟨z, ?_⟩
      have p : 0 < cr v t := by
        rcases Int.lt_or_eq_of_le h1 with h | h
        · exact h
        · exfalso
          rw [z, ← h] at i3 i4
          simp only [Int.zero_mul, Int.add_zero] at i3 i4
          rcases Int.mul_eq_zero.mp i3 with a | a
          · omega
          · rcases Int.mul_eq_zero.mp i4 with b | b
            · omega
            · unfold Nzw at nv; omega
      rw [z, Int.zero_mul, Int.add_zero] at i1
      have := Int.mul_pos p oo
      rw [← i1] at this
      exact pos_of W this
    · by_cases z2 : cr v t = 0
      · right; left
        refine ⟨by omega, ?_⟩
        rw [z2, Int.zero_mul, Int.zero_add] at i2
        have := Int.mul_pos (show 0 < cr o v by omega) tt
        rw [← i2] at this
        exact pos_of W this
      · right; right; omega
end Hull

set_option Elab.async false
set_option linter.all false
set_option maxRecDepth 100000
set_option maxHeartbeats 4000000
namespace DL
open PySem L2
section
variable {G : Gam} {ρ : En} {M : Mem} {Q : Kn} {R : Bool → Mem → Prop} {a b c r o xs : IE} {op op' : Operator} {co co' : CmpOp} {E : DE}
@[simp] theorem onV_some' {α : Type} (d : α) (Q : α → Prop) : onV (some d) Q = Q d := Eq.trans (onV_some d Q) (Eq.refl _)
@[simp] theorem getV_0 {x : Option D} {l : En} : getV (x :: l) 0 = x := rfl
@[simp] theorem getV_s {x : Option D} {l : En} {n : Nat} : getV (x :: l) (n + 1) = getV l n := rfl
@[simp] theorem setV_0 {x : Option D} {l : En} {d : D} : setV (x :: l) 0 d = some d :: l := rfl
@[simp] theorem setV_s {x : Option D} {l : En} {n : Nat} {d : D} : setV (x :: l) (n + 1) d = x :: setV l n d := rfl
@[simp] theorem wipeV_0 {x : Option D} {l : En} : wipeV (x :: l) 0 = none :: l := rfl
@[simp] theorem wipeV_s {x : Option D} {l : En} {n : Nat} : wipeV (x :: l) (n + 1) = x :: wipeV l n := rfl
@[simp] theorem wipesV_n : wipesV ρ [] = ρ := rfl
@[simp] theorem wipesV_c {v : Nat} {vs : List Nat} : wipesV ρ (v :: vs) = wipeV (wipesV ρ vs) v := rfl
@[simp] theorem setsV_n : setsV ρ [] [] = some ρ := rfl
@[simp] theorem setsV_c {i : Nat} {is : List Nat} {d : D} {ds : List D} : setsV ρ (i :: is) (d :: ds) = setsV (setV ρ i d) is ds := rfl
@[simp] theorem tgV_1 {i : Nat} {x : D} {P : En → Prop} : tgV [i] x ρ P = P (setV ρ i x) := rfl
@[simp] theorem tgV_2 {i j : Nat} {is : List Nat} {ds : List D} {P : En → Prop} : tgV (i :: j :: is) (.tup ds) ρ P = onV (setsV ρ (i :: j :: is) ds) P := by
  show (match setsV ρ (i :: j :: is) ds with | some ρ' => P ρ' | none => False) = _
  cases setsV ρ (i :: j :: is) ds <;> rfl
@[simp] theorem seqOf_l {n : Nat} : seqOf M (.lst n) = M[n]? := rfl
@[simp] theorem seqOf_t {l : List D} : seqOf M (.tup l) = some l := rfl
@[simp] theorem seqOf_s {l : List Int} : seqOf M (.scr l) = some (l.map D.int) := rfl
@[simp] theorem startD_0 {ds : List D} : startD 0 ds = ds.map some := by simp [startD]
@[simp] theorem bodyE_nx {ρ : En} : (bodyE Q).nx ρ M = Q .non M := rfl
@[simp] theorem bodyE_rt : (bodyE Q).rt = Q := rfl
@[simp] theorem bodyE_xx : (bodyE Q).xx = fun _ _ _ _ => False := rfl
@[simp] theorem bodyX_nx {ρ : En} : (bodyX Q).nx ρ M = Q .non M := rfl
@[simp] theorem bodyX_rt : (bodyX Q).rt = Q := rfl
@[simp] theorem bodyX_xx {ρ : En} {c : String} {fs : List D} : (bodyX Q).xx ρ c fs M = Q (.exn c fs) M := rfl

/-- the value is a truth value of which P holds -/
def tB (d : D) (P : Bool → Prop) : Prop := ∃ c, d = .bl c ∧ P c
def tI (d : D) (P : Int → Prop) : Prop := ∃ c, d = .int c ∧ P c
def tT (d : D) (P : List D → Prop) : Prop := ∃ c, d = .tup c ∧ P c
/-- what is unpacked -/
def unT (d : D) (M : Mem) (P : List D → Prop) : Prop := ∃ ds, (d = .tup ds ∨ ∃ n, d = .lst n ∧ M[n]? = some ds) ∧ P ds
@[simp] theorem unT_t {c : List D} {P : List D → Prop} : unT (.tup c) M P = P c := by
  apply propext
  constructor
  · rintro ⟨ds, e | ⟨n, e, _⟩, h⟩
    · cases e; exact h
    · cases e
  · intro h
    exact ⟨c, .inl rfl, h⟩
@[simp] theorem unT_l {n : Nat} {P : List D → Prop} : unT (.lst n) M P = onV M[n]? P := by
  apply propext
  constructor
  · rintro ⟨ds, e | ⟨k, e, g⟩, h⟩
    · cases e
    · cases e; rw [g]; exact h
  · intro h
    obtain ⟨d, e, h⟩ := onV_ex h
    exact ⟨d, .inr ⟨n, rfl, e⟩, h⟩
@[simp] theorem tB_b {c : Bool} {P : Bool → Prop} : tB (.bl c) P = P c := propext ⟨fun ⟨_, e, h⟩ => by cases e; exact h, fun h => ⟨c, rfl, h⟩⟩
@[simp] theorem tI_i {c : Int} {P : Int → Prop} : tI (.int c) P = P c := propext ⟨fun ⟨_, e, h⟩ => by cases e; exact h, fun h => ⟨c, rfl, h⟩⟩
@[simp] theorem tT_t {c : List D} {P : List D → Prop} : tT (.tup c) P = P c := propext ⟨fun ⟨_, e, h⟩ => by cases e; exact h, fun h => ⟨c, rfl, h⟩⟩
@[simp] theorem wpE_var {i : Nat} : wpE G (.var i) ρ M Q = onV (getV ρ i) fun d => Q d M := rfl
@[simp] theorem wpE_int {n : Int} : wpE G (.int n) ρ M Q = Q (.int n) M := rfl
@[simp] theorem wpE_bl {n : Bool} : wpE G (.bl n) ρ M Q = Q (.bl n) M := rfl
@[simp] theorem wpE_str {n : Str} : wpE G (.str n) ρ M Q = Q (.str n) M := rfl
@[simp] theorem wpE_non : wpE G .non ρ M Q = Q .non M := rfl
@[simp] theorem wpE_bin : wpE G (.bin op a b) ρ M Q = wpE G a ρ M fun x M1 => wpE G b ρ M1 fun y M2 => binD op x y M2 Q := rfl
@[simp] theorem wpE_neg : wpE G (.neg a) ρ M Q = wpE G a ρ M fun x M1 => tI x fun i => Q (.int (-i)) M1 := rfl
@[simp] theorem wpE_not : wpE G (.not a) ρ M Q = wpE G a ρ M fun x M1 => tB x fun c => Q (.bl (!c)) M1 := rfl
@[simp] theorem wpE_and : wpE G (.and a b) ρ M Q = wpE G a ρ M fun x M1 => tB x fun c => if c = true then wpE G b ρ M1 Q else Q (.bl false) M1 := rfl
@[simp] theorem wpE_or : wpE G (.or a b) ρ M Q = wpE G a ρ M fun x M1 => tB x fun c => if c = true then Q (.bl true) M1 else wpE G b ρ M1 Q := rfl
@[simp] theorem wpE_one : wpE G (.one a) ρ M Q = wpE G a ρ M Q := rfl
@[simp] theorem wpE_cmp : wpE G (.cmp co a b) ρ M Q = wpE G a ρ M fun x M1 => wpE G b ρ M1 fun y M2 => cmpD co x y M2 Q := rfl
@[simp] theorem wpE_chn : wpE G (.chn co co' a b c) ρ M Q = wpE G a ρ M fun x M1 => wpE G b ρ M1 fun y M2 => cmpD co x y M2 fun t M3 => tB t fun k =>
      if k = true then wpE G c ρ M3 fun z M4 => cmpD co' y z M4 Q else Q (.bl false) M3 := rfl
@[simp] theorem wpE_ch3 {o1 o2 o3 : CmpOp} {d : IE} : wpE G (.ch3 o1 o2 o3 a b c d) ρ M Q = wpE G a ρ M fun x M1 => wpE G b ρ M1 fun y M2 => cmpD o1 x y M2 fun t M3 => tB t fun k =>
      if k = true then wpE G c ρ M3 fun z M4 => cmpD o2 y z M4 fun t' M5 => tB t' fun k' => if k' = true then wpE G d ρ M5 fun u M6 => cmpD o3 z u M6 Q else Q (.bl false) M5 else Q (.bl false) M3 := rfl
@[simp] theorem wpE_lzip : wpE G (.lzip a b) ρ M Q = wpE G a ρ M fun x M1 => wpE G b ρ M1 fun y M2 => ∃ as bs, x = .tup as ∧ y = .tup bs ∧ min as.length bs.length < sizeLine ∧ Q (.lst M2.length) (M2 ++ [List.zipWith pr as bs]) := rfl
@[simp] theorem wpE_ite : wpE G (.ite c a b) ρ M Q = wpT G c ρ M fun c M1 => if c = true then wpE G a ρ M1 Q else wpE G b ρ M1 Q := rfl
@[simp] theorem wpE_tup : wpE G (.tup xs) ρ M Q = wpA G xs ρ M fun ds M1 => ds.length ≤ sizeLine ∧ Q (.tup ds) M1 := rfl
@[simp] theorem wpE_lst : wpE G (.lst xs) ρ M Q = wpA G xs ρ M fun ds M1 => ds.length ≤ sizeLine ∧ Q (.lst M1.length) (M1 ++ [ds]) := rfl
@[simp] theorem wpE_ix : wpE G (.ix a b) ρ M Q = wpE G a ρ M fun x M1 => wpE G b ρ M1 fun y M2 => ixD x y M2 Q := rfl
@[simp] theorem wpE_sl : wpE G (.sl a b c) ρ M Q = wpE G a ρ M fun x M1 => wpO G b ρ M1 fun l M2 => wpO G c ρ M2 fun h M3 => slD x l h M3 Q := rfl
@[simp] theorem wpE_srt : wpE G (.srt a) ρ M Q = wpE G a ρ M fun x M1 => srtD x M1 Q := rfl
@[simp] theorem wpE_rev : wpE G (.rev a) ρ M Q = wpE G a ρ M fun x M1 => revD x M1 Q := rfl
@[simp] theorem wpE_sl2 : wpE G (.sl2 a) ρ M Q = wpE G a ρ M fun x M1 => sl2D x M1 Q := rfl
@[simp] theorem wpE_bk1 : wpE G (.bk1 a) ρ M Q = wpE G a ρ M fun x M1 => bk1D x M1 Q := rfl
@[simp] theorem sl2D_t {l : List D} : sl2D (.tup l) M Q = Q (.tup (ev2 l)) M := rfl
@[simp] theorem bk1D_t {l : List D} : bk1D (.tup l) M Q = Q (.tup l.tail.reverse) M := rfl
@[simp] theorem bfD_mxp {xs : List D} : bfD .mxp [.tup xs] M Q = ∃ ls : List (Int × Int), xs = ls.map pt2 ∧ ls ≠ [] ∧ ∀ p ∈ ls, (∀ q ∈ ls, ¬ Lx p q) → Q (pt2 p) M := rfl
@[simp] theorem bfD_mnp {n : Nat} : bfD .mnp [.lst n] M Q = ∃ ls : List (Int × Int), M[n]? = some (ls.map pt2) ∧ ls ≠ [] ∧ ∀ p ∈ ls, (∀ q ∈ ls, ¬ Lx q p) → Q (pt2 p) M := rfl
@[simp] theorem wpE_isi {T : List String} : wpE G (.isi a T) ρ M Q = wpE G a ρ M fun x M1 => onV (isiD T x) fun b => Q (.bl b) M1 := by
  show (wpE G a ρ M fun x M1 => ∃ b, isiD T x = some b ∧ Q (.bl b) M1) = _
  congr 1; funext x M1; cases isiD T x <;> simp [onV]
@[simp] theorem wpE_blt {f : BF} : wpE G (.blt f xs) ρ M Q = wpA G xs ρ M fun ds M1 => bfD f ds M1 Q := rfl
@[simp] theorem wpE_mth {m : MF} : wpE G (.mth m o xs) ρ M Q = wpE G o ρ M fun x M1 => (∃ n, x = .lst n) ∧ wpA G xs ρ M1 fun ds M2 => mfD m x ds M2 Q := rfl
@[simp] theorem wpE_con {x : String} : wpE G (.con x) ρ M Q = G x [] M Q := rfl
@[simp] theorem cmpD_isbl {a b : Bool} : cmpD .Is (.bl a) (.bl b) M Q = Q (.bl (decide (a = b))) M := rfl
@[simp] theorem mfD_reverse {n : Nat} : mfD .reverse (.lst n) [] M Q = onV M[n]? fun ys => Q .non (M.set n ys.reverse) := rfl
@[simp] theorem bfD_sor {n : Nat} : bfD .sor [.lst n] M Q = ∃ ns : List Int, M[n]? = some (ns.map D.int) ∧ ∀ ns' : List Int, ns'.Perm ns → ns'.Pairwise (· ≤ ·) → Q (.lst M.length) (M ++ [ns'.map D.int]) := rfl
@[simp] theorem wpE_call {f : String} : wpE G (.call f xs) ρ M Q = wpA G xs ρ M fun ds M1 => G f ds M1 Q := rfl
@[simp] theorem wpT_not : wpT G (.not a) ρ M R = wpT G a ρ M fun c M1 => R (!c) M1 := rfl
@[simp] theorem wpT_and : wpT G (.and a b) ρ M R = wpT G a ρ M fun c M1 => if c = true then wpT G b ρ M1 R else R false M1 := rfl
@[simp] theorem wpT_or : wpT G (.or a b) ρ M R = wpT G a ρ M fun c M1 => if c = true then R true M1 else wpT G b ρ M1 R := rfl
@[simp] theorem wpT_one : wpT G (.one a) ρ M R = wpT G a ρ M R := rfl
@[simp] theorem wpT_cmp : wpT G (.cmp co a b) ρ M R = wpE G a ρ M fun x M1 => wpE G b ρ M1 fun y M2 => cmpD co x y M2 fun d M3 => tB d fun c => R c M3 := rfl
@[simp] theorem wpT_chn : wpT G (.chn co co' a b c) ρ M R = wpE G a ρ M fun x M1 => wpE G b ρ M1 fun y M2 => cmpD co x y M2 fun t M3 => tB t fun k =>
      if k = true then wpE G c ρ M3 fun z M4 => cmpD co' y z M4 fun d M5 => tB d fun c => R c M5 else R false M3 := rfl
@[simp] theorem wpT_ch3 {o1 o2 o3 : CmpOp} {d : IE} : wpT G (.ch3 o1 o2 o3 a b c d) ρ M R = wpE G a ρ M fun x M1 => wpE G b ρ M1 fun y M2 => cmpD o1 x y M2 fun t M3 => tB t fun k =>
      if k = true then wpE G c ρ M3 fun z M4 => cmpD o2 y z M4 fun t' M5 => tB t' fun k' => if k' = true then wpE G d ρ M5 fun u M6 => cmpD o3 z u M6 fun r M7 => tB r fun c => R c M7 else R false M5 else R false M3 := rfl
@[simp] theorem wpT_vr {i : Nat} : wpT G (.var i) ρ M R = onV (getV ρ i) fun d => tB d fun c => R c M := rfl
@[simp] theorem wpT_isi {T : List String} : wpT G (.isi a T) ρ M R = wpE G a ρ M fun x M1 => onV (isiD T x) fun b => R b M1 := by
  show (wpE G a ρ M fun x M1 => ∃ b, isiD T x = some b ∧ ∃ c, D.bl b = .bl c ∧ R c M1) = _
  congr 1; funext x M1; cases isiD T x <;> simp [onV]
@[simp] theorem wpT_blt {f : BF} : wpT G (.blt f xs) ρ M R = wpA G xs ρ M fun ds M1 => bfD f ds M1 fun d M2 => tB d fun c => R c M2 := rfl
@[simp] theorem wpT_call {f : String} : wpT G (.call f xs) ρ M R = wpA G xs ρ M fun ds M1 => G f ds M1 fun d M2 => tB d fun c => R c M2 := rfl
@[simp] theorem wpC_nil : wpC G .nil ρ M R = R true M := rfl
@[simp] theorem wpC_cons : wpC G (.cons a r) ρ M R = wpT G a ρ M R := rfl
@[simp] theorem wpA_nil {S : List D → Mem → Prop} : wpA G .nil ρ M S = S [] M := rfl
@[simp] theorem wpA_cons {S : List D → Mem → Prop} : wpA G (.cons a r) ρ M S = wpE G a ρ M fun x M1 => wpA G r ρ M1 fun xs M2 => S (x :: xs) M2 := rfl
@[simp] theorem wpO_nil {S : Option Int → Mem → Prop} : wpO G .nil ρ M S = S none M := rfl
@[simp] theorem wpO_cons {S : Option Int → Mem → Prop} : wpO G (.cons a r) ρ M S = wpE G a ρ M fun x M1 => tI x fun i => S (some i) M1 := rfl
@[simp] theorem wpI_rng1 {S : Src → Mem → Prop} : wpI G (.rng1 a) ρ M S = wpE G a ρ M fun x M1 => tI x fun j => (-(2 ^ 62) ≤ j ∧ j < 2 ^ 62) ∧ S (.rng 0 j.toNat) M1 := rfl
@[simp] theorem wpI_rng2 {S : Src → Mem → Prop} : wpI G (.rng2 a b) ρ M S = wpE G a ρ M fun x M1 => wpE G b ρ M1 fun y M2 => tI x fun i => tI y fun j => (-(2 ^ 62) ≤ j - i ∧ j - i < 2 ^ 62) ∧ S (.rng i (j - i).toNat) M2 := by
  show (wpE G a ρ M fun x M1 => wpE G b ρ M1 fun y M2 => ∃ i j, x = .int i ∧ y = .int j ∧ (-(2 ^ 62) ≤ j - i ∧ j - i < 2 ^ 62) ∧ S (.rng i (j - i).toNat) M2) = _
  congr 1; funext x M1; congr 1; funext y M2; exact propext ⟨fun ⟨i, j, e, f, h⟩ => ⟨i, e, j, f, h⟩, fun ⟨i, e, j, f, h⟩ => ⟨i, j, e, f, h⟩⟩
@[simp] theorem wpI_cons {S : Src → Mem → Prop} : wpI G (.cons a r) ρ M S = wpE G a ρ M fun x M1 => S (.val x) M1 ∧ ∃ xs, seqOf M1 x = some xs := rfl
@[simp] theorem wpI_enum {r : IE} {S : Src → Mem → Prop} : wpI G (.enum r) ρ M S = wpE G r ρ M fun x M1 => S (.enum x) M1 ∧ ∃ xs, seqOf M1 x = some xs := rfl
@[simp] theorem items_et {l : List D} : items M (.enum (.tup l)) = some (enumD 0 l) := rfl
@[simp] theorem items_zt {l l' : List D} : items M (.zip (.tup l) (.tup l')) = some (List.zipWith pr l l') := rfl
theorem items_zl {n m : Nat} {l l' : List D} (h : M[n]? = some l) (h' : M[m]? = some l') : items M (.zip (.lst n) (.lst m)) = some (List.zipWith pr l l') := by rw [items_zipE, show seqOf M (.lst n) = some l from h, show seqOf M (.lst m) = some l' from h']
@[simp] theorem binD_Add {i j : Int} : binD .Add (.int i) (.int j) M Q = Q (.int (i + j)) M := rfl
@[simp] theorem binD_Sub {i j : Int} : binD .Sub (.int i) (.int j) M Q = Q (.int (i - j)) M := rfl
@[simp] theorem binD_Mult {i j : Int} : binD .Mult (.int i) (.int j) M Q = (lg i + lg j < 1000000 ∧ Q (.int (i * j)) M) := rfl
@[simp] theorem binD_FloorDiv {i j : Int} : binD .FloorDiv (.int i) (.int j) M Q = (j ≠ 0 ∧ lg j < 9000 ∧ Q (.int (i.fdiv j)) M) := rfl
@[simp] theorem binD_Mod {i j : Int} : binD .Mod (.int i) (.int j) M Q = (j ≠ 0 ∧ Q (.int (i.fmod j)) M) := rfl
@[simp] theorem binD_Pow {i j : Int} : binD .Pow (.int i) (.int j) M Q = (0 ≤ j ∧ j ≤ 1000000 ∧ i.natAbs < 2 ^ 64 ∧ Q (.int (i ^ j.toNat)) M) := rfl
@[simp] theorem binD_Addb {i : Bool} {j : Int} : binD .Add (.bl i) (.int j) M Q = Q (.int (b2 i + j)) M := rfl
@[simp] theorem binD_Subb {i : Bool} {j : Int} : binD .Sub (.bl i) (.int j) M Q = Q (.int (b2 i - j)) M := rfl
@[simp] theorem binD_bSub {i : Int} {j : Bool} : binD .Sub (.int i) (.bl j) M Q = Q (.int (i - b2 j)) M := rfl
@[simp] theorem binD_bMul {i : Int} {j : Bool} : binD .Mult (.int i) (.bl j) M Q = Q (.int (i * b2 j)) M := rfl
@[simp] theorem binD_Modb {i : Bool} {j : Int} : binD .Mod (.bl i) (.int j) M Q = (j ≠ 0 ∧ Q (.int ((b2 i).fmod j)) M) := rfl
@[simp] theorem binD_tt {k l : List D} : binD .Add (.tup k) (.tup l) M Q = (k.length + l.length ≤ sizeLine ∧ Q (.tup (k ++ l)) M) := rfl
@[simp] theorem binD_ss {k l : Str} : binD .Add (.str k) (.str l) M Q = (k.length + l.length ≤ sizeLine ∧ Q (.str (k ++ l)) M) := rfl
@[simp] theorem binD_ll {k l : Nat} : binD .Add (.lst k) (.lst l) M Q = onV M[k]? fun xs => onV M[l]? fun ys => xs.length + ys.length ≤ sizeLine ∧ Q (.lst M.length) (M ++ [xs ++ ys]) := rfl
@[simp] theorem cmpD_Lt {i j : Int} : cmpD .Lt (.int i) (.int j) M Q = Q (.bl (decide (i < j))) M := rfl
@[simp] theorem cmpD_LtE {i j : Int} : cmpD .LtE (.int i) (.int j) M Q = Q (.bl (decide (i ≤ j))) M := rfl
@[simp] theorem cmpD_Gt {i j : Int} : cmpD .Gt (.int i) (.int j) M Q = Q (.bl (decide (j < i))) M := rfl
@[simp] theorem cmpD_GtE {i j : Int} : cmpD .GtE (.int i) (.int j) M Q = Q (.bl (decide (j ≤ i))) M := rfl
@[simp] theorem cmpD_Eq {i j : Int} : cmpD .Eq (.int i) (.int j) M Q = Q (.bl (decide (i = j))) M := rfl
@[simp] theorem cmpD_NotEq {i j : Int} : cmpD .NotEq (.int i) (.int j) M Q = Q (.bl (!decide (i = j))) M := rfl
@[simp] theorem cmpD_eqb {i j : Bool} : cmpD .Eq (.bl i) (.bl j) M Q = Q (.bl (decide (i = j))) M := rfl
@[simp] theorem cmpD_neb {i j : Bool} : cmpD .NotEq (.bl i) (.bl j) M Q = Q (.bl (!decide (i = j))) M := rfl
@[simp] theorem cmpD_eqs {i j : Str} : cmpD .Eq (.str i) (.str j) M Q = Q (.bl (decide (i = j))) M := rfl
@[simp] theorem cmpD_nes {i j : Str} : cmpD .NotEq (.str i) (.str j) M Q = Q (.bl (!decide (i = j))) M := rfl
@[simp] theorem cmpD_is {x : D} : cmpD .Is x .non M Q = Q (.bl (isNon x)) M := rfl
@[simp] theorem cmpD_isn {x : D} : cmpD .IsNot x .non M Q = Q (.bl (!isNon x)) M := by cases x <;> rfl
@[simp] theorem cmpD_isnbl {a b : Bool} : cmpD .IsNot (.bl a) (.bl b) M Q = Q (.bl (!decide (a = b))) M := rfl
@[simp] theorem wpT_ix : wpT G (.ix a b) ρ M R = wpE G a ρ M fun x M1 => wpE G b ρ M1 fun y M2 => ixD x y M2 fun d M3 => tB d fun c => R c M3 := rfl
@[simp] theorem ixD_i {x : D} {k : Int} : ixD x (.int k) M Q = onV (seqOf M x) fun xs => onV (atD xs k) fun v => Q v M := rfl
@[simp] theorem slD_l {n : Nat} {l h : Option Int} : slD (.lst n) l h M Q = onV M[n]? fun xs => Q (.lst M.length) (M ++ [cutD xs l h]) := rfl
@[simp] theorem slD_t {x : List D} {l h : Option Int} : slD (.tup x) l h M Q = Q (.tup (cutD x l h)) M := rfl
@[simp] theorem slD_s {x : List Int} {l h : Option Int} : slD (.scr x) l h M Q = Q (.lst M.length) (M ++ [cutD (x.map D.int) l h]) := rfl
@[simp] theorem revD_l {n : Nat} : revD (.lst n) M Q = onV M[n]? fun xs => Q (.lst M.length) (M ++ [xs.reverse]) := rfl
@[simp] theorem revD_t {x : List D} : revD (.tup x) M Q = Q (.tup x.reverse) M := rfl
@[simp] theorem bfD_lenl {n : Nat} : bfD .len [.lst n] M Q = onV M[n]? fun ys => Q (.int ys.length) M := rfl
@[simp] theorem bfD_lent {x : List D} : bfD .len [.tup x] M Q = Q (.int x.length) M := rfl
@[simp] theorem bfD_abs {i : Int} : bfD .abs [.int i] M Q = Q (.int (if i < 0 then -i else i)) M := rfl
@[simp] theorem bfD_max2 {i j : Int} : bfD .max [.int i, .int j] M Q = Q (.int (if j > i then j else i)) M := rfl
@[simp] theorem bfD_max3 {i j k : Int} : bfD .max [.int i, .int j, .int k] M Q = Q (.int (if k > (if j > i then j else i) then k else (if j > i then j else i))) M := rfl
@[simp] theorem bfD_min2 {i j : Int} : bfD .min [.int i, .int j] M Q = Q (.int (if j < i then j else i)) M := rfl
@[simp] theorem bfD_max1 {n : Nat} : bfD .max [.lst n] M Q = ∃ ns : List Int, M[n]? = some (ns.map D.int) ∧ 0 < ns.length ∧ ∀ m, m ∈ ns → (∀ y, y ∈ ns → y ≤ m) → Q (.int m) M := rfl
@[simp] theorem bfD_min1 {n : Nat} : bfD .min [.lst n] M Q = ∃ ns : List Int, M[n]? = some (ns.map D.int) ∧ 0 < ns.length ∧ ∀ m, m ∈ ns → (∀ y, y ∈ ns → m ≤ y) → Q (.int m) M := rfl
@[simp] theorem bfD_sum {n : Nat} : bfD .sum [.lst n] M Q = ∃ ns : List Int, M[n]? = some (ns.map D.int) ∧ Q (.int ns.sum) M := rfl
@[simp] theorem bfD_all {n : Nat} : bfD .all [.lst n] M Q = ∃ ns : List Bool, M[n]? = some (ns.map D.bl) ∧ Q (.bl (ns.all id)) M := rfl
@[simp] theorem bfD_any {n : Nat} : bfD .any [.lst n] M Q = ∃ ns : List Bool, M[n]? = some (ns.map D.bl) ∧ Q (.bl (ns.any id)) M := rfl
@[simp] theorem bfD_repr {x : D} : bfD .repr [x] M Q = ∃ p, PD M x p ∧ p.showable = true ∧ p.hasDict = false ∧ p.depth ≤ 50 ∧ p.shown.length ≤ sizeLine ∧ Q (.str p.shown) M := rfl
@[simp] theorem bfD_str {i : Int} : bfD .str [.int i] M Q = (lg i < 1920 ∧ Q (.str (toString i)) M) := rfl
@[simp] theorem bfD_inti {i : Int} : bfD .int [.int i] M Q = Q (.int i) M := rfl
@[simp] theorem bfD_intb {i : Bool} : bfD .int [.bl i] M Q = Q (.int (if i then 1 else 0)) M := rfl
@[simp] theorem bfD_list {x : D} : bfD .list [x] M Q = onV (seqOf M x) fun ys => Q (.lst M.length) (M ++ [ys]) := rfl
@[simp] theorem bfD_tuple {x : D} : bfD .tuple [x] M Q = onV (seqOf M x) fun ys => Q (.tup ys) M := rfl
@[simp] theorem mfD_append {n : Nat} {x : D} : mfD .append (.lst n) [x] M Q = onV M[n]? fun ys => ys.length < sizeLine ∧ Q .non (M.set n (ys ++ [x])) := rfl
@[simp] theorem mfD_extend {n k : Nat} : mfD .extend (.lst n) [.lst k] M Q = onV M[n]? fun ys => onV M[k]? fun zs => ys.length + zs.length ≤ sizeLine ∧ Q .non (M.set n (ys ++ zs)) := rfl
@[simp] theorem mfD_pop0 {n : Nat} : mfD .pop (.lst n) [] M Q = onV M[n]? fun ys => onV ys[ys.length - 1]? fun y => Q y (M.set n ys.dropLast) := rfl
theorem mfD_index {n : Nat} {x : D} : mfD .index (.lst n) [x] M Q = ∃ xs p ps j z, M[n]? = some xs ∧ PD M x p ∧ PDL M xs ps ∧ SeqAt.shaped (.list ps) = true ∧ SeqAt.shaped p = true ∧ ps[j]? = some z ∧ PyData.eqv z p = true ∧ (∀ (m : Nat) z', m < j → ps[m]? = some z' → PyData.eqv z' p = false) ∧ Q (.int (j : Nat)) M := rfl
@[simp] theorem mfD_countB {n : Nat} {b : Bool} : mfD .count (.lst n) [.bl b] M Q = ∃ bs : List Bool, M[n]? = some (bs.map D.bl) ∧ bs.length ≤ 1000 ∧ Q (.int (bs.count b : Nat)) M := rfl
@[simp] theorem mfD_count {n : Nat} {k : Int} : mfD .count (.lst n) [.int k] M Q = ∃ ns : List Int, M[n]? = some (ns.map D.int) ∧ Q (.int (ns.count k : Nat)) M := rfl
@[simp] theorem setIxD_i {n : Nat} {k : Int} {v : D} {S : Mem → Prop} : setIxD (.lst n) (.int k) v M S = onV M[n]? fun xs => onV (ixN xs.length k) fun j => S (M.set n (xs.set j v)) := rfl
@[simp] theorem items_v {d : D} : items M (.val d) = seqOf M d := rfl
@[simp] theorem items_r {lo : Int} {n : Nat} : items M (.rng lo n) = some (rngD lo n) := rfl
@[simp] theorem isxD_e {T : List String} {c : String} {fs : List D} : isxD T (.exc c fs) = some (T.any (subX c)) := rfl
@[simp] theorem isxD_n {T : List String} : isxD T .non = some false := rfl
@[simp] theorem wpE_isx {T : List String} : wpE G (.isx a T) ρ M Q = wpE G a ρ M fun x M1 => onV (isxD T x) fun b => Q (.bl b) M1 := rfl
@[simp] theorem wpE_fld {n : String} : wpE G (.fld a n) ρ M Q = wpE G a ρ M fun x M1 => onV (fldD n x) fun d => Q d M1 := rfl
theorem w_compd {elt cond : IE} {vs tg : List Nat} {i n : Nat} {ls : Tab} (ev : getV ρ i = some (.dct n)) (eM : M[n]? = some (dcD ls)) (hz : ls.length < sizeLine) (h : ∃ Pv : Nat → List D → Mem → Prop, Pv 0 [] (M.set n (dcF ls)) ∧
      (∀ j acc M, j ≤ ls.length → Pv j acc M → acc.length ≤ j ∧ M[n]? = some (dcF ls)) ∧
      (∀ j x acc M, (ls.map fun e => pt2 e.1)[j]? = some x → Pv j acc M → tgV tg x (wipesV ρ vs) fun ρ' => wpC G cond ρ' M fun b M2 =>
        if b = true then wpE G elt ρ' M2 fun y M3 => Pv (j + 1) (acc ++ [y]) M3 else Pv (j + 1) acc M2) ∧
      ∀ acc M, Pv ls.length acc M → Q (.lst M.length) (M.set n (dcD ls) ++ [acc])) : wpE G (.compd elt vs tg i cond) ρ M Q := ⟨n, ls, ev, eM, hz, h⟩
@[simp] theorem wpE_dnew : wpE G .dnew ρ M Q = Q (.dct M.length) (M ++ [dcD []]) := rfl
@[simp] theorem wpE_dsd : wpE G (.dsd a xs) ρ M Q = wpE G a ρ M fun x M1 => (∃ n ls, x = .dct n ∧ M1[n]? = some (dcD ls)) ∧ wpA G xs ρ M1 fun ds M2 => dsD x ds M2 Q := rfl
theorem bfD_srp {n : Nat} : bfD .srp [.lst n] M Q = ∃ ls : List (Int × Int), M[n]? = some (ls.map pt2) ∧ ∀ ms : List (Int × Int), ms.Perm ls → (ms.Pairwise fun x y => ¬ Lx y x) → Q (.lst M.length) (M ++ [ms.map pt2]) := rfl
@[simp] theorem bfD_ldc {n : Nat} : bfD .ldc [.dct n] M Q = ∃ ls : Tab, M[n]? = some (dcD ls) ∧ Q (.lst M.length) (M ++ [ls.map fun e => pt2 e.1]) := rfl
@[simp] theorem wpE_calh {f : String} : wpE G (.calh f xs) ρ M Q = wpA G xs ρ M fun ds M1 => G f ds M1 Q := rfl
@[simp] theorem wpE_xcl {f : String} : wpE G (.xcl f xs) ρ M Q = wpA G xs ρ M fun ds M1 => G f ds M1 (spl Q fun _ _ _ => False) := rfl
@[simp] theorem wpT_isx {T : List String} : wpT G (.isx a T) ρ M R = wpE G a ρ M fun x M1 => onV (isxD T x) fun b => R b M1 := by
  show (wpE G a ρ M fun x M1 => onV (isxD T x) fun b => ∃ c, D.bl b = .bl c ∧ R c M1) = _
  congr 1; funext x M1; cases isxD T x <;> simp [onV]
@[simp] theorem wpT_calh {f : String} : wpT G (.calh f xs) ρ M R = wpA G xs ρ M fun ds M1 => G f ds M1 fun d M2 => tB d fun c => R c M2 := rfl
@[simp] theorem spl_x {X : String → List D → Mem → Prop} {c : String} {fs : List D} : spl Q X (.exn c fs) M = X c fs M := rfl
@[simp] theorem spl_b {X : String → List D → Mem → Prop} {b : Bool} : spl Q X (.bl b) M = Q (.bl b) M := rfl
@[simp] theorem spl_i {X : String → List D → Mem → Prop} {b : Int} : spl Q X (.int b) M = Q (.int b) M := rfl
@[simp] theorem spl_n {X : String → List D → Mem → Prop} : spl Q X .non M = Q .non M := rfl
@[simp] theorem spl_s {X : String → List D → Mem → Prop} {s : Str} : spl Q X (.str s) M = Q (.str s) M := rfl
@[simp] theorem spl_t {X : String → List D → Mem → Prop} {l : List D} : spl Q X (.tup l) M = Q (.tup l) M := rfl
@[simp] theorem spl_l {X : String → List D → Mem → Prop} {n : Nat} : spl Q X (.lst n) M = Q (.lst n) M := rfl
section
variable {X : XW}
@[simp] theorem wpX_xcl {f : String} : wpX G X (.xcl f xs) ρ M Q = wpXA G X xs ρ M fun ds M1 => G f ds M1 (spl Q (X ρ)) := rfl
@[simp] theorem wpX_bin : wpX G X (.bin op a b) ρ M Q = wpX G X a ρ M fun x M1 => wpX G X b ρ M1 fun y M2 => binD op x y M2 Q := rfl
@[simp] theorem wpX_not : wpX G X (.not a) ρ M Q = wpX G X a ρ M fun x M1 => tB x fun c => Q (.bl (!c)) M1 := rfl
@[simp] theorem wpX_cmp : wpX G X (.cmp co a b) ρ M Q = wpX G X a ρ M fun x M1 => wpX G X b ρ M1 fun y M2 => cmpD co x y M2 Q := rfl
@[simp] theorem wpX_ite : wpX G X (.ite c a b) ρ M Q = wpXT G X c ρ M fun c M1 => if c = true then wpX G X a ρ M1 Q else wpX G X b ρ M1 Q := rfl
@[simp] theorem wpX_tup : wpX G X (.tup xs) ρ M Q = wpXA G X xs ρ M fun ds M1 => ds.length ≤ sizeLine ∧ Q (.tup ds) M1 := rfl
@[simp] theorem wpX_blt {f : BF} : wpX G X (.blt f xs) ρ M Q = wpXA G X xs ρ M fun ds M1 => bfD f ds M1 Q := rfl
@[simp] theorem wpX_call {f : String} : wpX G X (.call f xs) ρ M Q = wpXA G X xs ρ M fun ds M1 => G f ds M1 Q := rfl
@[simp] theorem wpX_var {i : Nat} : wpX G X (.var i) ρ M Q = onV (getV ρ i) fun d => Q d M := rfl
@[simp] theorem wpX_int {n : Int} : wpX G X (.int n) ρ M Q = Q (.int n) M := rfl
@[simp] theorem wpX_bl {n : Bool} : wpX G X (.bl n) ρ M Q = Q (.bl n) M := rfl
@[simp] theorem wpX_str {n : Str} : wpX G X (.str n) ρ M Q = Q (.str n) M := rfl
@[simp] theorem wpX_non : wpX G X .non ρ M Q = Q .non M := rfl
@[simp] theorem wpX_ix : wpX G X (.ix a b) ρ M Q = wpE G (.ix a b) ρ M Q := rfl
@[simp] theorem wpX_neg : wpX G X (.neg a) ρ M Q = wpE G (.neg a) ρ M Q := rfl
@[simp] theorem wpX_and : wpX G X (.and a b) ρ M Q = wpE G (.and a b) ρ M Q := rfl
@[simp] theorem wpX_or : wpX G X (.or a b) ρ M Q = wpE G (.or a b) ρ M Q := rfl
@[simp] theorem wpX_isi {T : List String} : wpX G X (.isi a T) ρ M Q = wpE G (.isi a T) ρ M Q := rfl
@[simp] theorem wpX_chn : wpX G X (.chn co co' a b c) ρ M Q = wpE G (.chn co co' a b c) ρ M Q := rfl
@[simp] theorem wpX_lst : wpX G X (.lst xs) ρ M Q = wpE G (.lst xs) ρ M Q := rfl
@[simp] theorem wpX_sl : wpX G X (.sl a b c) ρ M Q = wpE G (.sl a b c) ρ M Q := rfl
@[simp] theorem wpX_fld {n : String} : wpX G X (.fld a n) ρ M Q = wpE G (.fld a n) ρ M Q := rfl
@[simp] theorem wpX_isx {T : List String} : wpX G X (.isx a T) ρ M Q = wpE G (.isx a T) ρ M Q := rfl
@[simp] theorem wpX_con {x : String} : wpX G X (.con x) ρ M Q = G x [] M Q := rfl
@[simp] theorem wpXT_cmp : wpXT G X (.cmp co a b) ρ M R = wpX G X a ρ M fun x M1 => wpX G X b ρ M1 fun y M2 => cmpD co x y M2 fun d M3 => tB d fun c => R c M3 := rfl
@[simp] theorem wpXT_not : wpXT G X (.not a) ρ M R = wpXT G X a ρ M fun c M1 => R (!c) M1 := rfl
@[simp] theorem wpXA_nil {S : List D → Mem → Prop} : wpXA G X .nil ρ M S = S [] M := rfl
@[simp] theorem wpXA_cons {S : List D → Mem → Prop} : wpXA G X (.cons a r) ρ M S = wpX G X a ρ M fun x M1 => wpXA G X r ρ M1 fun xs M2 => S (x :: xs) M2 := rfl
end
theorem w_skip : wpS G .skip E ρ M = E.nx ρ M := rfl
theorem w_av {i : Nat} {s : IS} : wpS G (.seq (.asg (.v i) a) s) E ρ M = wpE G a ρ M fun d M1 => wpS G s E (setV ρ i d) M1 := rfl
theorem w_as {s : IS} : wpS G (.seq (.asg (.sub o b) a) s) E ρ M = wpE G a ρ M fun d M1 => wpE G o ρ M1 fun x M2 => wpE G b ρ M2 fun y M3 => setIxD x y d M3 fun M4 => wpS G s E ρ M4 := rfl
theorem w_at {g : IG} {s : IS} : wpS G (.seq (.asg (.t g) a) s) E ρ M = wpE G a ρ M fun d M1 => unT d M1 fun ds => ds.length = lenG g ∧ wpGs G g ds ρ M1 fun ρ1 M2 => wpS G s E ρ1 M2 := rfl
theorem w_ex {s : IS} : wpS G (.seq (.ex a) s) E ρ M = wpE G a ρ M fun _ M1 => wpS G s E ρ M1 := rfl
theorem w_ret {s : IS} : wpS G (.seq (.ret a) s) E ρ M = wpE G a ρ M E.rt := rfl
theorem w_ite {t e s : IS} : wpS G (.seq (.ite a t e) s) E ρ M = wpT G a ρ M fun c M1 => if c = true then wpS G t { E with nx := fun ρ1 M2 => wpS G s E ρ1 M2 } ρ M1 else wpS G e { E with nx := fun ρ1 M2 => wpS G s E ρ1 M2 } ρ M1 := rfl
theorem w_par {is : List Nat} {s : IS} : wpS G (.seq (.par is xs) s) E ρ M = wpA G xs ρ M fun ds M1 => (match setsV ρ is ds with | some ρ1 => wpS G s E ρ1 M1 | none => False) := rfl
@[simp] theorem wpGs_n {P : En → Mem → Prop} : wpGs G .nil [] ρ M P = P ρ M := rfl
@[simp] theorem wpGs_c {g h : IG} {d : D} {ds : List D} {P : En → Mem → Prop} : wpGs G (.cons g h) (d :: ds) ρ M P = wpG G g d ρ M fun ρ1 M1 => wpGs G h ds ρ1 M1 P := rfl
@[simp] theorem wpG_v {i : Nat} {d : D} {P : En → Mem → Prop} : wpG G (.v i) d ρ M P = P (setV ρ i d) M := rfl
@[simp] theorem wpG_t {g : IG} {ds : List D} {P : En → Mem → Prop} : wpG G (.t g) (.tup ds) ρ M P = (ds.length = lenG g ∧ wpGs G g ds ρ M P) := by
  show unT (.tup ds) M (fun ds' => ds'.length = lenG g ∧ wpGs G g ds' ρ M P) = _
  rw [unT_t]
@[simp] theorem lenG_n : lenG .nil = 0 := rfl
@[simp] theorem lenG_c {g h : IG} : lenG (.cons g h) = lenG h + 1 := rfl
/-- a while by a word and a number that falls -/
theorem w_whl {t : IE} {b s : IS} (W : Nat → En → Mem → Prop) {m : Nat} (h0 : W m ρ M)
    (turn : ∀ m ρ M, W m ρ M → wpT G t ρ M fun c M1 => if c = true then wpS G b { nx := fun ρ1 M2 => ∃ m1, m1 < m ∧ W m1 ρ1 M2, rt := E.rt, bk := fun ρ1 M2 => wpS G s E ρ1 M2, ct := fun ρ1 M2 => ∃ m1, m1 < m ∧ W m1 ρ1 M2, xx := E.xx } ρ M1 else wpS G s E ρ M1) :
    wpS G (.seq (.whl t b) s) E ρ M := ⟨W, ⟨m, h0⟩, turn⟩
/-- a for by what holds ahead of turn i -/
theorem w_for {g : IG} {it : IE} {b s : IS} (h : wpI G it ρ M fun src M1 => ∃ xs, items M1 src = some xs ∧ ∃ Pv : Nat → En → Mem → Prop, Pv 0 ρ M1 ∧
      (∀ i ρ M, i ≤ xs.length → Pv i ρ M → items M src = some xs) ∧
      (∀ i x ρ M, xs[i]? = some x → Pv i ρ M → wpG G g x ρ M fun ρ1 M2 => wpS G b { nx := Pv (i + 1), rt := E.rt, bk := fun ρ1 M2 => wpS G s E ρ1 M2, ct := Pv (i + 1), xx := E.xx } ρ1 M2) ∧
      ∀ ρ M, Pv xs.length ρ M → wpS G s E ρ M) : wpS G (.seq (.for_ g it b) s) E ρ M := h
theorem w_comp {elt it cond : IE} {vs tg : List Nat} (h : wpI G it ρ M fun src M1 => ∃ xs, items M1 src = some xs ∧ xs.length < sizeLine ∧ ∃ Pv : Nat → List D → Mem → Prop, Pv 0 [] M1 ∧
      (∀ i acc M, i ≤ xs.length → Pv i acc M → acc.length ≤ i ∧ items M src = some xs) ∧
      (∀ i x acc M, xs[i]? = some x → Pv i acc M → tgV tg x (wipesV ρ vs) fun ρ' => wpC G cond ρ' M fun b M2 =>
        if b = true then wpE G elt ρ' M2 fun y M3 => Pv (i + 1) (acc ++ [y]) M3 else Pv (i + 1) acc M2) ∧
      ∀ acc M, Pv xs.length acc M → Q (.lst M.length) (M ++ [acc])) : wpE G (.comp elt vs tg it cond) ρ M Q := h
theorem atD_nat {xs : List D} {j : Nat} : atD xs (j : Int) = xs[j]? := by
  unfold atD ixN
  by_cases h : j < xs.length
  · rw [if_pos (by omega), if_pos (by omega)]
    simp
  · rw [if_pos (by omega), if_neg (by omega)]
    simp [List.getElem?_eq_none (Nat.le_of_not_lt h)]
theorem atD_of {xs : List D} {k : Int} (h : 0 ≤ k) : atD xs k = xs[k.toNat]? := by
  obtain ⟨j, rfl⟩ : ∃ j : Nat, k = (j : Int) := ⟨k.toNat, by omega⟩
  rw [atD_nat]
  rfl
@[simp] theorem atD_2 {xs : List D} : atD xs 2 = xs[2]? := atD_nat (j := 2)
@[simp] theorem atD_3 {xs : List D} : atD xs 3 = xs[3]? := atD_nat (j := 3)
@[simp] theorem atD_4 {xs : List D} : atD xs 4 = xs[4]? := atD_nat (j := 4)
@[simp] theorem atD_5 {xs : List D} : atD xs 5 = xs[5]? := atD_nat (j := 5)
@[simp] theorem atD_6 {xs : List D} : atD xs 6 = xs[6]? := atD_nat (j := 6)
@[simp] theorem atD_7 {xs : List D} : atD xs 7 = xs[7]? := atD_nat (j := 7)
@[simp] theorem atD_8 {xs : List D} : atD xs 8 = xs[8]? := atD_nat (j := 8)
@[simp] theorem atD_9 {xs : List D} : atD xs 9 = xs[9]? := atD_nat (j := 9)
@[simp] theorem atD_10 {xs : List D} : atD xs 10 = xs[10]? := atD_nat (j := 10)
@[simp] theorem atD_11 {xs : List D} : atD xs 11 = xs[11]? := atD_nat (j := 11)
@[simp] theorem atD_12 {xs : List D} : atD xs 12 = xs[12]? := atD_nat (j := 12)
@[simp] theorem atD_0 {xs : List D} : atD xs 0 = xs[0]? := atD_nat (j := 0)
@[simp] theorem atD_1 {xs : List D} : atD xs 1 = xs[1]? := atD_nat (j := 1)
theorem gs_self {n : Nat} {x y : List D} (h : M[n]? = some y) : (M.set n x)[n]? = some x := by
  have := (List.getElem?_eq_some_iff.mp h).1
  simp [this]
theorem gs_ne {n k : Nat} {x : List D} (h : n ≠ k) : (M.set n x)[k]? = M[k]? := List.getElem?_set_ne h
theorem ga_lt {k : Nat} {x y : List D} (h : M[k]? = some y) : (M ++ [x])[k]? = some y := by
  have := (List.getElem?_eq_some_iff.mp h).1
  rw [List.getElem?_append_left this, h]
theorem ga_ltL {k : Nat} {x : List D} (h : k < M.length) : (M ++ [x])[k]? = M[k]? := List.getElem?_append_left h
@[simp] theorem ga_len {x : List D} : (M ++ [x])[M.length]? = some x := by simp
theorem lt_of_get {k : Nat} {y : List D} (h : M[k]? = some y) : k < M.length := (List.getElem?_eq_some_iff.mp h).1
@[simp] theorem ixN_0 {k : Nat} : ixN (k + 1) 0 = some 0 := by simp [ixN]
@[simp] theorem ixN_1 {k : Nat} : ixN (k + 2) 1 = some 1 := by simp [ixN]; omega
@[simp] theorem ixN_2 {k : Nat} : ixN (k + 3) 2 = some 2 := by simp [ixN]; omega
theorem atD_ex {xs : List D} {k : Int} (h0 : 0 ≤ k) (h1 : k < xs.length) : ∃ v, xs[k.toNat]? = some v ∧ atD xs k = some v := by
  obtain ⟨j, rfl⟩ : ∃ j : Nat, k = (j : Int) := ⟨k.toNat, by omega⟩
  have hj : j < xs.length := by omega
  exact ⟨xs[j], by simp, by rw [atD_nat]; simp [hj]⟩
end
end DL

set_option Elab.async false
set_option linter.all false
set_option maxRecDepth 100000
set_option maxHeartbeats 4000000
namespace DL
open PySem L2
/-! what every law's draws keep -/
structure Feed (n a : Nat) (M : Mem) : Prop where
  ex : ∃ (m : Nat) (ns : List Int) (at_ rest : Int), M[n]? = some [.lst m, .int at_, .int rest] ∧ M[m]? = some (ns.map D.int) ∧ m < n ∧ 0 ≤ at_ ∧ at_ ≤ a ∧ 0 ≤ rest ∧ ns.length ≤ 63
structure Fx (n a : Nat) (M M' : Mem) : Prop where
  len : M.length ≤ M'.length
  same : ∀ k, k < M.length → k ≠ n → M'[k]? = M[k]?
  feed : Feed n a M'
theorem Fx.trans {n a b : Nat} {M M1 M2 : Mem} (x : Fx n a M M1) (y : Fx n b M1 M2) : Fx n b M M2 :=
  ⟨Nat.le_trans x.len y.len, fun k hk hn => (y.same k (Nat.lt_of_lt_of_le hk x.len) hn).trans (x.same k hk hn), y.feed⟩
theorem Feed.mono {n a b : Nat} {M : Mem} (f : Feed n a M) (h : a ≤ b) : Feed n b M := by
  obtain ⟨m, ns, at_, rest, h1, h2, h3, h4, h5, h6, h7⟩ := f.ex
  exact ⟨m, ns, at_, rest, h1, h2, h3, h4, by omega, h6, h7⟩
theorem lg_of {i : Int} {k : Nat} (h : i.natAbs < 2 ^ k) : lg i ≤ k := by
  unfold lg
  by_cases h0 : i.natAbs = 0
  · rw [h0]; simp
  · exact Nat.le_of_lt ((Nat.log2_lt h0).mpr h)
theorem lg_lt {i : Int} : i.natAbs < 2 ^ (lg i + 1) := by
  unfold lg
  exact Nat.lt_log2_self
theorem lg_mul {i j : Int} : lg (i * j) ≤ lg i + lg j + 1 := by
  by_cases h0 : (i * j).natAbs = 0
  · simp [lg, h0]
  · have h : (i * j).natAbs < 2 ^ ((lg i + lg j + 1) + 1) := by
      rw [Int.natAbs_mul, show lg i + lg j + 1 + 1 = (lg i + 1) + (lg j + 1) by omega, Nat.pow_add]
      exact Nat.mul_lt_mul'' lg_lt lg_lt
    have := (Nat.log2_lt h0).mpr h
    show Nat.log2 _ ≤ _
    omega
theorem lg_add {i j : Int} : lg (i + j) ≤ lg i + lg j + 1 := by
  by_cases h0 : (i + j).natAbs = 0
  · simp [lg, h0]
  · have h : (i + j).natAbs < 2 ^ ((lg i + lg j + 1) + 1) := by
      have a1 : (2 : Nat) ^ (lg i + 1) ≤ 2 ^ (lg i + lg j + 1) := Nat.pow_le_pow_right (by omega) (by omega)
      have a2 : (2 : Nat) ^ (lg j + 1) ≤ 2 ^ (lg i + lg j + 1) := Nat.pow_le_pow_right (by omega) (by omega)
      have b1 := lg_lt (i := i)
      have b2 := lg_lt (i := j)
      rw [Nat.pow_succ 2 (lg i + lg j + 1)]
      omega
    have := (Nat.log2_lt h0).mpr h
    show Nat.log2 _ ≤ _
    omega
theorem lg_mono {i j : Int} (h : i.natAbs ≤ j.natAbs) : lg i ≤ lg j := by
  by_cases h0 : i.natAbs = 0
  · simp [lg, h0]
  · have := (Nat.log2_lt h0).mpr (Nat.lt_of_le_of_lt h (lg_lt (i := j)))
    show Nat.log2 _ ≤ _
    omega
theorem lg_mod {i j : Int} (h : 0 < j) : lg (i.fmod j) ≤ lg j := by
  have := Int.fmod_nonneg_of_pos i h
  have := Int.fmod_lt_of_pos i h
  exact lg_mono (by omega)
def S_draw : DSpec := fun ds M Q => ∃ n a many, ds = [.lst n, .int many] ∧ Feed n a M ∧ a < 2 ^ 60 ∧ 0 < many ∧ many < 2 ^ 64 ∧ ∀ r M', 0 ≤ r → r < many → Fx n (a + 1) M M' → Q (.int r) M'
def ir_law_draw_13 : IS :=
  .seq (.ret (.bin .Mod (.bin .FloorDiv (.bin .Mod (.bin .Mult (.var 5) (.int 48271)) (.int 2147483563)) (.int 7)) (.var 1))) .skip
def ir_law_draw_12 : IS :=
  .seq (.asg (.v 5) (.bin .Mod (.bin .Add (.bin .Add (.bin .Mult (.var 5) (.var 5)) (.bin .Mult (.int 38317) (.var 3))) (.int 101)) (.int 2147483587))) ir_law_draw_13
def ir_law_draw_11 : IS :=
  .seq (.asg (.v 5) (.bin .Mod (.bin .Mult (.bin .Add (.bin .Add (.bin .Add (.bin .Mod (.var 4) (.int 1000003)) (.bin .Mult (.bin .Mult (.int 47) (.var 3)) (.var 3))) (.bin .Mult (.int 31) (.var 3))) (.int 907)) (.int 40009)) (.int 2147483629))) ir_law_draw_12
def ir_law_draw_10 : IS :=
  .seq (.ret (.bin .Mod (.var 4) (.var 1))) .skip
def ir_law_draw_9 : IS :=
  .seq (.asg (.sub (.var 0) (.int 2)) (.bin .FloorDiv (.var 4) (.var 1))) ir_law_draw_10
def ir_law_draw_8 : IS :=
  .seq (.ite (.and (.cmp .GtE (.var 4) (.bin .Pow (.int 10) (.int 18))) (.one (.cmp .Lt (.var 3) (.blt .len (.cons (.ix (.var 0) (.int 0)) .nil))))) ir_law_draw_9 .skip) ir_law_draw_11
def ir_law_draw_7 : IS :=
  .seq (.asg (.v 4) (.ite (.cmp .Gt (.blt .len (.cons (.ix (.var 0) (.int 0)) .nil)) (.int 0)) (.ix (.ix (.var 0) (.int 0)) (.bin .Mod (.var 3) (.blt .len (.cons (.ix (.var 0) (.int 0)) .nil)))) (.int 0))) ir_law_draw_8
def ir_law_draw_6 : IS :=
  .seq (.asg (.sub (.var 0) (.int 1)) (.bin .Add (.var 3) (.int 1))) ir_law_draw_7
def ir_law_draw_5 : IS :=
  .seq (.asg (.v 3) (.ix (.var 0) (.int 1))) ir_law_draw_6
def ir_law_draw_4 : IS :=
  .seq (.ret (.var 2)) .skip
def ir_law_draw_3 : IS :=
  .seq (.asg (.sub (.var 0) (.int 2)) (.bin .FloorDiv (.ix (.var 0) (.int 2)) (.var 1))) ir_law_draw_4
def ir_law_draw_2 : IS :=
  .seq (.asg (.v 2) (.bin .Mod (.ix (.var 0) (.int 2)) (.var 1))) ir_law_draw_3
def ir_law_draw_1 : IS :=
  .seq (.ite (.cmp .Gt (.ix (.var 0) (.int 2)) (.int 0)) ir_law_draw_2 .skip) ir_law_draw_5
abbrev ir_law_draw : IS := ir_law_draw_1

theorem fx_set {n m a : Nat} {M : Mem} {y : List D} {ns : List Int} {at_ rest : Int} (h1 : M[n]? = some y) (h2 : M[m]? = some (ns.map D.int)) (h3 : m < n)
    (h4 : 0 ≤ at_) (h5 : at_ ≤ a) (h6 : 0 ≤ rest) (h7 : ns.length ≤ 63) : Fx n a M (M.set n [.lst m, .int at_, .int rest]) :=
  ⟨by simp, fun k _ hk => gs_ne (Ne.symm hk), ⟨m, ns, at_, rest, gs_self h1, by rw [gs_ne (Nat.ne_of_gt h3), h2], h3, h4, h5, h6, h7⟩⟩
theorem draw_ok (G : Gam) : ∀ ds M Q, S_draw ds M Q → wpS G ir_law_draw (bodyE Q) (startD (6 - ds.length) ds) M := by
  rintro ds M Q ⟨n, a, many, rfl, F, ha, hm, hm2, hq⟩
  obtain ⟨m, ns, at_, rest, h1, h2, h3, h4, h5, h6, h7⟩ := F.ex
  have hmm : many ≠ 0 := by omega
  have hlm : lg many < 9000 := Nat.lt_of_le_of_lt (lg_of (k := 64) (by omega)) (by decide)
  simp [ir_law_draw_1, w_ite, h1, startD]
  split
  · simp [ir_law_draw_2, ir_law_draw_3, ir_law_draw_4, w_av, w_as, w_ret, h1]
    exact ⟨hmm, hlm, hq _ _ (Int.fmod_nonneg_of_pos _ hm) (Int.fmod_lt_of_pos _ hm) (fx_set h1 h2 h3 h4 (by omega) (by rw [Int.fdiv_eq_ediv_of_nonneg _ (by omega)]; exact Int.ediv_nonneg h6 (by omega)) h7)⟩
  · rw [w_skip]
    simp [ir_law_draw_5, ir_law_draw_6, ir_law_draw_7, w_av, w_as, w_ret, h1]
    have fx : Fx n (a + 1) M _ := fx_set h1 h2 h3 (at_ := at_ + 1) (rest := rest) (by omega) (by omega) h6 h7
    have g1 := gs_self (x := [D.lst m, D.int (at_ + 1), D.int rest]) h1
    have g2 := (gs_ne (M := M) (x := [D.lst m, D.int (at_ + 1), D.int rest]) (Nat.ne_of_gt h3)).trans h2
    generalize List.set M n [D.lst m, D.int (at_ + 1), D.int rest] = M1 at *
    simp [g1, g2]
    have key : ∀ (cell : Int), wpS G ir_law_draw_8 (bodyE Q) [some (D.lst n), some (D.int many), none, some (D.int at_), some (D.int cell), none] M1 := by
      intro cell
      have la : lg at_ ≤ 60 := lg_of (by omega)
      simp [ir_law_draw_8, w_ite, g1, g2]
      have key2 : wpS G ir_law_draw_11 (bodyE Q) [some (D.lst n), some (D.int many), none, some (D.int at_), some (D.int cell), none] M1 := by
        have l1 : lg 47 ≤ 6 := by decide
        have l2 : lg 31 ≤ 6 := by decide
        have l3 : lg 40009 ≤ 16 := by decide
        have l4 : lg 38317 ≤ 16 := by decide
        have l5 : lg 48271 ≤ 16 := by decide
        have l6 : lg 907 ≤ 16 := by decide
        have l7 : lg 101 ≤ 16 := by decide
        have l8 : lg 7 ≤ 16 := by decide
        have l9 : lg 1000003 ≤ 32 := by decide
        have l10 : lg 2147483629 ≤ 32 := by decide
        have l11 : lg 2147483587 ≤ 32 := by decide
        have m1 := lg_mul (i := 47) (j := at_)
        have m2 := lg_mul (i := 47 * at_) (j := at_)
        have m3 := lg_mul (i := 31) (j := at_)
        have d1 := lg_mod (i := cell) (j := 1000003) (by decide)
        have a1 := lg_add (i := cell.fmod 1000003) (j := 47 * at_ * at_)
        have a2 := lg_add (i := cell.fmod 1000003 + 47 * at_ * at_) (j := 31 * at_)
        have a3 := lg_add (i := cell.fmod 1000003 + 47 * at_ * at_ + 31 * at_) (j := 907)
        simp [ir_law_draw_11, w_av]
        refine ⟨by omega, by omega, by omega, by omega, ?_⟩
        generalize hf : ((cell.fmod 1000003 + 47 * at_ * at_ + 31 * at_ + 907) * 40009).fmod 2147483629 = f1
        have d2 := lg_mod (i := (cell.fmod 1000003 + 47 * at_ * at_ + 31 * at_ + 907) * 40009) (j := 2147483629) (by decide)
        rw [hf] at d2
        simp [ir_law_draw_12, w_av]
        refine ⟨by omega, by omega, ?_⟩
        generalize hg : (f1 * f1 + 38317 * at_ + 101).fmod 2147483587 = f2
        have d3 := lg_mod (i := f1 * f1 + 38317 * at_ + 101) (j := 2147483587) (by decide)
        rw [hg] at d3
        simp [ir_law_draw_13, w_ret]
        exact ⟨by omega, by omega, hmm, hq _ _ (Int.fmod_nonneg_of_pos _ hm) (Int.fmod_lt_of_pos _ hm) fx⟩
      split
      · split
        · simp [ir_law_draw_9, ir_law_draw_10, w_as, w_ret, g1]
          refine ⟨hmm, hlm, hmm, hq _ _ (Int.fmod_nonneg_of_pos _ hm) (Int.fmod_lt_of_pos _ hm) (fx.trans (fx_set g1 g2 h3 (by omega) (by omega) (by rw [Int.fdiv_eq_ediv_of_nonneg _ (by omega)]; exact Int.ediv_nonneg (by omega) (by omega)) h7))⟩
        · exact key2
      · exact key2
    split
    · rename_i hl
      have hl0 : (ns.length : Int) ≠ 0 := by omega
      refine ⟨by intro e; simp [e] at hl0, ?_⟩
      obtain ⟨v, hv, hv2⟩ := atD_ex (xs := ns.map D.int) (k := at_.fmod ns.length) (Int.fmod_nonneg_of_pos _ (by omega)) (by rw [List.length_map]; exact Int.fmod_lt_of_pos _ (by omega))
      rw [List.getElem?_map] at hv
      obtain ⟨w, _, rfl⟩ := Option.map_eq_some_iff.mp hv
      simp [hv2]
      exact key w
    · exact key 0
end DL

set_option Elab.async false
set_option linter.all false
set_option maxRecDepth 100000
set_option maxHeartbeats 4000000
namespace DL
open PySem L2
-- slots ['thing']
-- slots ['one', 'other']
-- slots ['thing']
def ir_law_feed_1 : IS :=
  .seq (.ret (.lst (.cons (.sl (.var 0) .nil (.cons (.int 63) .nil)) (.cons (.int 0) (.cons (.int 0) .nil))))) .skip
abbrev ir_law_feed : IS := ir_law_feed_1
-- slots ['_law_script']
-- slots ['_law_feed_here', '_law_most', '_law_way', '_law_sign', '_law_found', '_law_k']
-- slots ['_law_one', '_law_other', '_law_twos']
-- slots ['_law_thing']
-- slots ['_law_thing']
theorem nat_fdiv (x y : Nat) : (x : Int).fdiv (y : Int) = ((x / y : Nat) : Int) := by
  rw [Int.fdiv_eq_ediv_of_nonneg _ (Int.natCast_nonneg y)]; exact (Int.natCast_ediv x y).symm
def S_gcd : DSpec := fun ds M Q => ∃ a b : Nat, ds = [.int a, .int b] ∧ Q (.int (Nat.gcd a b)) M
end DL

set_option Elab.async false
set_option linter.all false
set_option maxRecDepth 100000
set_option maxHeartbeats 4000000
namespace DL
open PySem L2
theorem sz {k : Nat} (h : k ≤ 16777216) : k ≤ sizeLine := by
  have : sizeLine = 16777216 := by decide
  omega
theorem sz_eq : sizeLine = 16777216 := by decide
theorem Feed.ln {n a : Nat} {M : Mem} (f : Feed n a M) : n < M.length := by
  obtain ⟨m, ns, at_, rest, h1, _⟩ := f.ex
  exact lt_of_get h1
theorem Feed.app {n a : Nat} {M : Mem} (f : Feed n a M) (x : List D) : Feed n a (M ++ [x]) := by
  obtain ⟨m, ns, at_, rest, h1, h2, h⟩ := f.ex
  exact ⟨m, ns, at_, rest, ga_lt h1, ga_lt h2, h⟩
theorem Feed.set {n a k : Nat} {M : Mem} (f : Feed n a M) (h : n < k) (x : List D) : Feed n a (M.set k x) := by
  obtain ⟨m, ns, at_, rest, h1, h2, h3, h⟩ := f.ex
  exact ⟨m, ns, at_, rest, by rw [gs_ne (by omega)]; exact h1, by rw [gs_ne (by omega)]; exact h2, h3, h⟩
theorem Fx.refl {n a : Nat} {M : Mem} (f : Feed n a M) : Fx n a M M := ⟨Nat.le_refl _, fun _ _ _ => rfl, f⟩
theorem Fx.app {n a : Nat} {M M1 : Mem} (f : Fx n a M M1) (x : List D) : Fx n a M (M1 ++ [x]) :=
  ⟨by have := f.len; simp; omega, fun k hk hn => by rw [ga_ltL (Nat.lt_of_lt_of_le hk f.len)]; exact f.same k hk hn, f.feed.app x⟩
theorem Fx.mono {n a b : Nat} {M M1 : Mem} (f : Fx n a M M1) (h : a ≤ b) : Fx n b M M1 := ⟨f.len, f.same, f.feed.mono h⟩
theorem Fx.get {n a k : Nat} {M M1 : Mem} {x : List D} (f : Fx n a M M1) (h : M[k]? = some x) (hn : k ≠ n) : M1[k]? = some x := by
  rw [f.same k (lt_of_get h) hn, h]
/-- a cell made behind the feed -/
theorem Fx.top {n a b : Nat} {M M1 : Mem} {x : List D} (F : Feed n a M) (f : Fx n b (M ++ [x]) M1) : M1[M.length]? = some x :=
  f.get ga_len (by have := F.ln; omega)
theorem Fx.tail {n a : Nat} {M M1 : Mem} {x : List D} (f : Fx n a (M ++ [x]) M1) : Fx n a M M1 :=
  ⟨by have := f.len; simp at this; omega, fun k hk hn => by rw [f.same k (by simp; omega) hn, ga_ltL hk], f.feed⟩
theorem Fx.ln {n a : Nat} {M M1 : Mem} (f : Fx n a M M1) : n < M1.length := f.feed.ln
def S_feed : DSpec := fun ds M Q => ∃ ns : List Int, ds = [.scr ns] ∧ ns.length ≤ 63 ∧ ∀ n M', M.length ≤ n → (∀ k, k < M.length → M'[k]? = M[k]?) → Feed n 0 M' → Q (.lst n) M'
theorem law_feed_ok (G : Gam) : ∀ ds M Q, S_feed ds M Q → wpS G ir_law_feed (bodyE Q) (startD (1 - ds.length) ds) M := by
  rintro ds M Q ⟨ns, rfl, hl, q⟩
  simp [ir_law_feed_1, startD, w_ret, sz_eq]
  have e : cutD (ns.map D.int) none (some 63) = ((ns.drop (HT.sIx (ns.map D.int).length 0 none)).take (HT.sIx (ns.map D.int).length (ns.map D.int).length (some 63) - HT.sIx (ns.map D.int).length 0 none)).map D.int := by
    unfold cutD
    rw [List.map_take, List.map_drop]
  have := q (M.length + 1) (M ++ [cutD (ns.map D.int) none (some 63)] ++ [[.lst M.length, .int 0, .int 0]]) (by omega)
    (fun k hk => by rw [ga_ltL (by simp; omega), ga_ltL hk])
    ⟨M.length, _, 0, 0, by simp, by rw [ga_ltL (by simp), ga_len, e], by omega, by decide, by decide, by decide, by simp; omega⟩
  simpa using this

end DL

set_option Elab.async false
set_option linter.all false
set_option maxRecDepth 100000
set_option maxHeartbeats 4000000
namespace DL
open PySem L2
mutual
/-- a thing: whole numbers short of 2^b, depth at most t, bulk at most w, its lists lie at n or behind -/
inductive Nz (n : Nat) (M : Mem) (b : Nat) : Nat → Nat → D → Prop
  | non {t w : Nat} : Nz n M b t w .non
  | bl {t w : Nat} (v : Bool) : Nz n M b t w (.bl v)
  | int {t w : Nat} {i : Int} : i.natAbs < 2 ^ b → Nz n M b t w (.int i)
  | str {t w : Nat} {s : Str} : s.length ≤ w → PyData.strOk s = true → Nz n M b t w (.str s)
  | tup {t w : Nat} {xs : List D} : NzL n M b t w xs → Nz n M b (t + 1) w (.tup xs)
  | lst {t w k : Nat} {xs : List D} : n ≤ k → M[k]? = some xs → NzL n M b t w xs → Nz n M b (t + 1) w (.lst k)
inductive NzL (n : Nat) (M : Mem) (b : Nat) : Nat → Nat → List D → Prop
  | nil {t w : Nat} : NzL n M b t w []
  | cons {t w w1 w2 : Nat} {x : D} {xs : List D} : Nz n M b t w1 x → NzL n M b t w2 xs → w1 + 1 + w2 ≤ w → NzL n M b t w (x :: xs)
end
section
variable {n b : Nat} {M M' : Mem}
mutual
theorem Nz.mono {b' : Nat} (hb : b ≤ b') : ∀ {t t' w w' : Nat} {d : D}, t ≤ t' → w ≤ w' → Nz n M b t w d → Nz n M b' t' w' d
  | _, _, _, _, _, _, _, .non => .non
  | _, _, _, _, _, _, _, .bl v => .bl v
  | _, _, _, _, _, _, _, .int h => .int (Nat.lt_of_lt_of_le h (Nat.pow_le_pow_right (by omega) hb))
  | _, _, _, _, _, _, hw, .str h s => .str (Nat.le_trans h hw) s
  | _, 0, _, _, _, ht, _, .tup _ => by omega
  | _, t' + 1, _, _, _, ht, hw, .tup l => .tup (NzL.mono hb (Nat.le_of_succ_le_succ ht) hw l)
  | _, 0, _, _, _, ht, _, .lst _ _ _ => by omega
  | _, t' + 1, _, _, _, ht, hw, .lst h1 h2 l => .lst h1 h2 (NzL.mono hb (Nat.le_of_succ_le_succ ht) hw l)
theorem NzL.mono {b' : Nat} (hb : b ≤ b') : ∀ {t t' w w' : Nat} {d : List D}, t ≤ t' → w ≤ w' → NzL n M b t w d → NzL n M b' t' w' d
  | _, _, _, _, _, _, _, .nil => .nil
  | _, _, _, _, _, ht, hw, .cons h l e => .cons (Nz.mono hb ht (Nat.le_refl _) h) (NzL.mono hb ht (Nat.le_refl _) l) (Nat.le_trans e hw)
end
mutual
theorem Nz.keep (hm : ∀ k xs, M[k]? = some xs → n ≤ k → M'[k]? = some xs) : ∀ {t w : Nat} {d : D}, Nz n M b t w d → Nz n M' b t w d
  | _, _, _, .non => .non
  | _, _, _, .bl v => .bl v
  | _, _, _, .int h => .int h
  | _, _, _, .str h s => .str h s
  | _, _, _, .tup l => .tup (NzL.keep hm l)
  | _, _, _, .lst h1 h2 l => .lst h1 (hm _ _ h2 h1) (NzL.keep hm l)
theorem NzL.keep (hm : ∀ k xs, M[k]? = some xs → n ≤ k → M'[k]? = some xs) : ∀ {t w : Nat} {d : List D}, NzL n M b t w d → NzL n M' b t w d
  | _, _, _, .nil => .nil
  | _, _, _, .cons h l e => .cons (Nz.keep hm h) (NzL.keep hm l) e
end
theorem Nz.fx {m a t w : Nat} {d : D} (h : Nz n M b t w d) (f : Fx m a M M') (hm : m < n) : Nz n M' b t w d := h.keep fun _ _ e hn => f.get e (by omega)
theorem NzL.fx {m a t w : Nat} {d : List D} (h : NzL n M b t w d) (f : Fx m a M M') (hm : m < n) : NzL n M' b t w d := h.keep fun _ _ e hn => f.get e (by omega)
theorem NzL.set {m t w : Nat} {d x : List D} (h : NzL n M b t w d) (hm : m < n) : NzL n (M.set m x) b t w d := h.keep fun _ _ e hn => by rw [gs_ne (by omega)]; exact e
theorem Nz.app {t w : Nat} {d : D} (h : Nz n M b t w d) (x : List D) : Nz n (M ++ [x]) b t w d := h.keep fun _ _ e _ => ga_lt e
theorem NzL.app {t w : Nat} {d : List D} (h : NzL n M b t w d) (x : List D) : NzL n (M ++ [x]) b t w d := h.keep fun _ _ e _ => ga_lt e
theorem NzL.length {t : Nat} : ∀ {w : Nat} {xs : List D}, NzL n M b t w xs → xs.length ≤ w
  | _, _, .nil => Nat.zero_le _
  | _, _, .cons h l e => by have := NzL.length l; simp only [List.length_cons]; omega
theorem NzL.append {t : Nat} : ∀ {w w' v : Nat} {xs ys : List D}, NzL n M b t w xs → NzL n M b t w' ys → w + w' ≤ v → NzL n M b t v (xs ++ ys)
  | _, _, _, _, _, .nil, l, e => l.mono (Nat.le_refl _) (Nat.le_refl _) (by omega)
  | w, w', v, _, _, .cons (w1 := w1) (w2 := w2) h l e, l', e' => .cons (w2 := w2 + w') h (NzL.append l l' (Nat.le_refl _)) (by omega)
/-- a place: what lies ahead, what is there, what lies behind -/
theorem NzL.split {t : Nat} : ∀ {w : Nat} {xs : List D} {i : Nat} {x : D}, NzL n M b t w xs → xs[i]? = some x →
    ∃ wa wx wd, NzL n M b t wa (xs.take i) ∧ Nz n M b t wx x ∧ NzL n M b t wd (xs.drop (i + 1)) ∧ wa + 1 + wx + wd ≤ w
  | _, _, i, _, .nil, e => by simp at e
  | w, _, 0, x, .cons (w1 := w1) (w2 := w2) h l e, e' => by
    simp at e'; subst e'
    exact ⟨0, w1, w2, .nil, h, l, by omega⟩
  | w, _, i + 1, x, .cons (w1 := w1) (w2 := w2) h l e, e' => by
    obtain ⟨wa, wx, wd, h1, h2, h3, h4⟩ := NzL.split (i := i) l (by simpa using e')
    exact ⟨w1 + 1 + wa, wx, wd, .cons h h1 (Nat.le_refl _), h2, h3, by omega⟩
theorem NzL.drop {t : Nat} : ∀ {w : Nat} {xs : List D} (i : Nat), NzL n M b t w xs → NzL n M b t w (xs.drop i)
  | _, _, 0, l => l
  | _, _, _ + 1, .nil => .nil
  | _, _, i + 1, .cons h l e => (NzL.drop i l).mono (Nat.le_refl _) (Nat.le_refl _) (by omega)
theorem NzL.take {t : Nat} : ∀ {w : Nat} {xs : List D} (i : Nat), NzL n M b t w xs → NzL n M b t w (xs.take i)
  | _, _, 0, l => .nil
  | _, _, _ + 1, .nil => .nil
  | _, _, i + 1, .cons h l e => .cons h (NzL.take i l) e
theorem NzL.cut {t w : Nat} {xs : List D} (l : NzL n M b t w xs) (lo hi : Option Int) : NzL n M b t w (cutD xs lo hi) := (l.drop _).take _
theorem NzL.one {t w v : Nat} {x : D} (h : Nz n M b t w x) (e : w + 1 ≤ v) : NzL n M b t v [x] := .cons h (.nil (w := 0)) (by omega)
theorem NzL.reverse {t : Nat} : ∀ {w : Nat} {xs : List D}, NzL n M b t w xs → NzL n M b t w xs.reverse
  | _, _, .nil => .nil
  | _, _, .cons (w1 := w1) (w2 := w2) h l e => by
    rw [List.reverse_cons]
    exact NzL.append (NzL.reverse l) (NzL.one h (Nat.le_refl _)) (by omega)
theorem NzL.get {t w : Nat} {xs : List D} {i : Nat} {x : D} (l : NzL n M b t w xs) (e : xs[i]? = some x) : Nz n M b t w x := by
  obtain ⟨wa, wx, wd, _, h, _, h4⟩ := l.split e
  exact h.mono (Nat.le_refl _) (Nat.le_refl _) (by omega)
/-- what a thing is as the kit's data -/
structure PF (b t w : Nat) (p : PyData) : Prop where
  sh : p.showable = true
  nd : p.hasDict = false
  dp : p.depth ≤ t
  cl : p.canLay0 = true
  bk : p.bulk ≤ w
  lv : ∀ B, b + 1 ≤ B → p.leavesShort B = true
structure PFL (b t w : Nat) (p : List PyData) : Prop where
  sh : PyData.showableAll p = true
  nd : PyData.hasDictAll p = false
  dp : PyData.depthAll p ≤ t
  cl : PyData.canLayAll0 p = true
  bk : PyData.bulkAll p ≤ w
  lv : ∀ B, b + 1 ≤ B → PyData.leavesShortAll B p = true
theorem len_txt {s : String} : (Str.ofString s).length = s.length := by
  exact ofString_length s
mutual
theorem Nz.pd (hb : 0 < b) (hb2 : b ≤ 1900) : ∀ {t w : Nat} {d : D}, Nz n M b t w d → ∃ p, PD M d p ∧ PF b t w p
  | _, _, _, .non => ⟨_, .non, rfl, rfl, Nat.zero_le _, rfl, Nat.zero_le _, fun _ _ => rfl⟩
  | _, _, _, .bl v => ⟨_, .bl v, rfl, rfl, Nat.zero_le _, rfl, Nat.zero_le _, fun _ _ => rfl⟩
  | _, _, _, .int (i := i) h => by
    have hl : i.natAbs.log2 < b := by
      by_cases h0 : i.natAbs = 0
      · rw [h0]; simpa using hb
      · exact (Nat.log2_lt h0).mpr h
    refine ⟨_, .int _, by simp [PyData.showable]; omega, rfl, Nat.zero_le _, rfl, Nat.zero_le _, fun B hB => ?_⟩
    have := int_text_length_le hb hl
    have e : (PyData.shown (.int i)).length = (toString i).length := len_txt
    simp only [PyData.leavesShort, decide_eq_true_eq]
    omega
  | _, _, _, .str (s := s) h hs => by
    refine ⟨_, .str _, rfl, rfl, Nat.zero_le _, hs, h, fun B hB => ?_⟩
    simp only [PyData.leavesShort, List.all_eq_true, decide_eq_true_eq]
    intro c hc
    unfold PyData.strOk at hs
    rw [Array.all_eq_true_iff_forall_mem] at hs
    have := hs c (by simpa using hc)
    simp at this
    omega
  | _, _, _, .tup l => by
    obtain ⟨ps, h1, h2⟩ := NzL.pd hb hb2 l
    exact ⟨_, .tup h1, by simpa only [PyData.showable] using h2.sh, by simpa only [PyData.hasDict] using h2.nd, by have := h2.dp; simp only [PyData.depth]; omega, by simpa only [PyData.canLay0] using h2.cl,
      by simpa only [PyData.bulk] using h2.bk, fun B hB => by simpa only [PyData.leavesShort] using h2.lv B hB⟩
  | _, _, _, .lst h1 h2 l => by
    obtain ⟨ps, h3, h4⟩ := NzL.pd hb hb2 l
    exact ⟨_, .lst h2 h3, by simpa only [PyData.showable] using h4.sh, by simpa only [PyData.hasDict] using h4.nd, by have := h4.dp; simp only [PyData.depth]; omega, by simpa only [PyData.canLay0] using h4.cl,
      by simpa only [PyData.bulk] using h4.bk, fun B hB => by simpa only [PyData.leavesShort] using h4.lv B hB⟩
theorem NzL.pd (hb : 0 < b) (hb2 : b ≤ 1900) : ∀ {t w : Nat} {d : List D}, NzL n M b t w d → ∃ p, PDL M d p ∧ PFL b t w p
  | _, _, _, .nil => ⟨_, .nil, rfl, rfl, Nat.zero_le _, rfl, Nat.zero_le _, fun _ _ => rfl⟩
  | _, _, _, .cons h l e => by
    obtain ⟨p, h1, h2⟩ := Nz.pd hb hb2 h
    obtain ⟨ps, h3, h4⟩ := NzL.pd hb hb2 l
    refine ⟨_, .cons h1 h3, by simp [PyData.showableAll, h2.sh, h4.sh], by simp [PyData.hasDictAll, h2.nd, h4.nd], ?_, by simp [PyData.canLayAll0, h2.cl, h4.cl], ?_, fun B hB => by simp [PyData.leavesShortAll, h2.lv B hB, h4.lv B hB]⟩
    · have := h2.dp; have := h4.dp; simp only [PyData.depthAll]; omega
    · have := h2.bk; have := h4.bk; simp only [PyData.bulkAll]; omega
end
theorem PF.shaped {t w : Nat} {p : PyData} (h : PF b t w p) (ht : t ≤ 64) : SeqAt.shaped p = true := by
  have := h.dp
  simp [SeqAt.shaped, h.cl]; omega
theorem PF.fit {t w : Nat} {p : PyData} (h : PF b t w p) (hb : 7 ≤ b) (hw : (b + 3) * w + b ≤ 16777215) : p.shown.length ≤ sizeLine := by
  have := PyData.shown_le_bulk (b + 1) (by omega) p (h.lv _ (Nat.le_refl _))
  have e : (b + 1 + 2) * p.bulk ≤ (b + 3) * w := Nat.mul_le_mul_left _ h.bk
  have := sz_eq
  omega
/-- what repr asks of a thing -/
theorem Nz.repr {t w : Nat} {d : D} (h : Nz n M b t w d) (hb : 7 ≤ b) (hb2 : b ≤ 1900) (ht : t ≤ 50) (hw : (b + 3) * w + b ≤ 16777215) :
    ∃ p, PD M d p ∧ p.showable = true ∧ p.hasDict = false ∧ p.depth ≤ 50 ∧ p.shown.length ≤ sizeLine := by
  obtain ⟨p, h1, h2⟩ := h.pd (by omega) hb2
  exact ⟨p, h1, h2.sh, h2.nd, Nat.le_trans h2.dp ht, h2.fit hb hw⟩
end
section
variable {M : Mem}
mutual
theorem PD.uniq : ∀ {d : D} {p q : PyData}, PD M d p → PD M d q → p = q
  | _, _, _, .non, .non => rfl
  | _, _, _, .bl _, .bl _ => rfl
  | _, _, _, .int _, .int _ => rfl
  | _, _, _, .str _, .str _ => rfl
  | _, _, _, .tup l, .tup l' => by rw [PDL.uniq l l']
  | _, _, _, .lst e l, .lst e' l' => by
    rw [e] at e'; cases e'
    rw [PDL.uniq l l']
theorem PDL.uniq : ∀ {d : List D} {p q : List PyData}, PDL M d p → PDL M d q → p = q
  | _, _, _, .nil, .nil => rfl
  | _, _, _, .cons h l, .cons h' l' => by rw [PD.uniq h h', PDL.uniq l l']
end
end
end DL

set_option Elab.async false
set_option linter.all false
set_option maxRecDepth 100000
set_option maxHeartbeats 4000000
namespace DL
open PySem L2
-- slots ['_law_feed_here', '_law_thing', '_law_at', '_law_way', '_law_some']
end DL

set_option Elab.async false
set_option linter.all false
set_option maxRecDepth 100000
set_option maxHeartbeats 4000000
set_option exponentiation.threshold 3000
namespace DL
open PySem L2
end DL

set_option Elab.async false
set_option linter.all false
set_option maxRecDepth 100000
set_option maxHeartbeats 4000000
namespace DL
open PySem L2
theorem nz_list {n b t w : Nat} {M : Mem} {xs : List D} {v : Nat} (h : ∀ x ∈ xs, Nz n M b t w x) (e : xs.length * (w + 1) ≤ v) : NzL n M b t v xs := by
  induction xs generalizing v with
  | nil => exact .nil
  | cons x xs ih =>
    simp only [List.length_cons, Nat.add_mul, Nat.one_mul] at e
    exact .cons (h x List.mem_cons_self) (ih (v := xs.length * (w + 1)) (fun y hy => h y (List.mem_cons_of_mem _ hy)) (Nat.le_refl _)) (by omega)
end DL

set_option Elab.async false
set_option linter.all false
set_option maxRecDepth 100000
set_option maxHeartbeats 4000000
namespace DL
open PySem L2
theorem len_draw : ∀ ds M Q, S_draw ds M Q → ds.length = 2 := fun _ _ _ ⟨_, _, _, e, _⟩ => by rw [e]; rfl
theorem len_feed : ∀ ds M Q, S_feed ds M Q → ds.length = 1 := fun _ _ _ ⟨_, e, _⟩ => by rw [e]; rfl
theorem fa_nil {α : Type} {P : α → Prop} : ∀ x ∈ ([] : List α), P x := fun _ h => by cases h
theorem fa_cons {α : Type} {P : α → Prop} {a : α} {l : List α} (h : P a) (h' : ∀ x ∈ l, P x) : ∀ x ∈ a :: l, P x := List.forall_mem_cons.mpr ⟨h, h'⟩
end DL

set_option Elab.async false
set_option linter.all false
set_option maxRecDepth 100000
set_option maxHeartbeats 4000000
set_option exponentiation.threshold 3000
namespace DL
open PySem L2
/-- the memory has only grown -/
def Ex (M M' : Mem) : Prop := ∃ L, M' = M ++ L
theorem Ex.refl (M : Mem) : Ex M M := ⟨[], by simp⟩
theorem Ex.app {M M' : Mem} (h : Ex M M') (x : List D) : Ex M (M' ++ [x]) := by
  obtain ⟨L, rfl⟩ := h; exact ⟨L ++ [x], by simp⟩
theorem Ex.trans {M M' M2 : Mem} (h : Ex M M') (h' : Ex M' M2) : Ex M M2 := by
  obtain ⟨L, rfl⟩ := h; obtain ⟨L', rfl⟩ := h'; exact ⟨L ++ L', by simp⟩
theorem Ex.get {M M' : Mem} (h : Ex M M') {k : Nat} {x : List D} (g : M[k]? = some x) : M'[k]? = some x := by
  obtain ⟨L, rfl⟩ := h
  have := lt_of_get g
  rw [List.getElem?_append_left this, g]
theorem Ex.len {M M' : Mem} (h : Ex M M') : M.length ≤ M'.length := by obtain ⟨L, rfl⟩ := h; simp
theorem Ex.feed {M M' : Mem} (h : Ex M M') {n a : Nat} (f : Feed n a M) : Feed n a M' := by
  obtain ⟨m, ns, at_, rest, h1, h2, h3⟩ := f.ex
  exact ⟨m, ns, at_, rest, h.get h1, h.get h2, h3⟩
theorem Ex.fx {M M' : Mem} (h : Ex M M') {n a : Nat} (f : Feed n a M) : Fx n a M M' :=
  ⟨h.len, fun k hk _ => by obtain ⟨L, rfl⟩ := h; exact List.getElem?_append_left hk, h.feed f⟩
theorem Nz.ex {M M' : Mem} (h : Ex M M') {n b t w : Nat} {d : D} (z : Nz n M b t w d) : Nz n M' b t w d := z.keep fun _ _ e _ => h.get e
theorem NzL.ex {M M' : Mem} (h : Ex M M') {n b t w : Nat} {d : List D} (z : NzL n M b t w d) : NzL n M' b t w d := z.keep fun _ _ e _ => h.get e
@[simp] theorem gap1 {M L : Mem} {i : Nat} : (M ++ L)[M.length + i]? = L[i]? := by rw [List.getElem?_append_right (Nat.le_add_right _ _), Nat.add_sub_cancel_left]
@[simp] theorem gap2 {M L : Mem} {i j : Nat} : (M ++ L)[M.length + i + j]? = L[i + j]? := by rw [Nat.add_assoc, gap1]
@[simp] theorem gap3 {M L : Mem} {i j k : Nat} : (M ++ L)[M.length + i + j + k]? = L[i + j + k]? := by rw [Nat.add_assoc, gap2, Nat.add_assoc]
mutual
theorem PD.ex {M M' : Mem} (h : Ex M M') : ∀ {d : D} {p : PyData}, PD M d p → PD M' d p
  | _, _, .non => .non
  | _, _, .bl b => .bl b
  | _, _, .int b => .int b
  | _, _, .str b => .str b
  | _, _, .tup l => .tup (PDL.ex h l)
  | _, _, .lst g l => .lst (h.get g) (PDL.ex h l)
theorem PDL.ex {M M' : Mem} (h : Ex M M') : ∀ {d : List D} {p : List PyData}, PDL M d p → PDL M' d p
  | _, _, .nil => .nil
  | _, _, .cons q l => .cons (PD.ex h q) (PDL.ex h l)
end
-- slots ['thing']
-- slots ['thing', 'one']
-- slots ['_law_thing', '_law_one']
-- slots ['_law_thing', '_law_one']
end DL

set_option Elab.async false
set_option linter.all false
set_option maxRecDepth 100000
set_option maxHeartbeats 4000000
namespace DL
open PySem L2
mutual
theorem Nz.low {n n' b : Nat} {M : Mem} (h : n ≤ n') : ∀ {t w : Nat} {d : D}, Nz n' M b t w d → Nz n M b t w d
  | _, _, _, .non => .non
  | _, _, _, .bl v => .bl v
  | _, _, _, .int h => .int h
  | _, _, _, .str h s => .str h s
  | _, _, _, .tup l => .tup (NzL.low h l)
  | _, _, _, .lst h1 h2 l => .lst (Nat.le_trans h h1) h2 (NzL.low h l)
theorem NzL.low {n n' b : Nat} {M : Mem} (h : n ≤ n') : ∀ {t w : Nat} {d : List D}, NzL n' M b t w d → NzL n M b t w d
  | _, _, _, .nil => .nil
  | _, _, _, .cons h1 l e => .cons (Nz.low h h1) (NzL.low h l) e
end
theorem Nz.set {n b m t w : Nat} {M : Mem} {d : D} {x : List D} (h : Nz n M b t w d) (hm : m < n) : Nz n (M.set m x) b t w d := h.keep fun _ _ e hn => by rw [gs_ne (by omega)]; exact e
theorem Fx.set {n a k : Nat} {M M1 : Mem} (f : Fx n a M M1) (h : M.length ≤ k) (hn : n < k) (x : List D) : Fx n a M (M1.set k x) :=
  ⟨by simp; exact f.len, fun j hj hjn => by rw [gs_ne (by omega)]; exact f.same j hj hjn, f.feed.set hn x⟩
theorem s0 : 0 ≤ 16777216 := by omega
end DL

set_option Elab.async false
set_option linter.all false
set_option maxRecDepth 100000
set_option maxHeartbeats 4000000
set_option exponentiation.threshold 3000
namespace DL
open PySem L2
/-- a fraction in lowest terms -/
structure Low (p q : Int) : Prop where
  pos : 0 < q
  cop : Nat.gcd p.natAbs q.natAbs = 1
theorem dvd_of_low {p q p' q' : Int} (h : Low p q) (e : p * q' = p' * q) : q.natAbs ∣ q'.natAbs := by
  have e2 : p.natAbs * q'.natAbs = p'.natAbs * q.natAbs := by rw [← Int.natAbs_mul, e, Int.natAbs_mul]
  have hc : Nat.Coprime q.natAbs p.natAbs := by rw [Nat.coprime_comm]; exact h.cop
  exact hc.dvd_of_dvd_mul_left ⟨p'.natAbs, by rw [e2, Nat.mul_comm]⟩
theorem Low.uniq {p q p' q' : Int} (h : Low p q) (h' : Low p' q') (e : p * q' = p' * q) : p = p' ∧ q = q' := by
  have d1 := dvd_of_low h e
  have d2 := dvd_of_low h' e.symm
  have e3 := Nat.dvd_antisymm d1 d2
  have h1 := h.pos
  have h2 := h'.pos
  have eq : q = q' := by omega
  subst eq
  exact ⟨Int.eq_of_mul_eq_mul_right (by omega) e, rfl⟩
theorem mul_lt {x y : Int} {k j : Nat} (hx : x.natAbs < 2 ^ k) (hy : y.natAbs < 2 ^ j) : (x * y).natAbs < 2 ^ (k + j) := by
  rw [Int.natAbs_mul, Nat.pow_add]
  exact Nat.mul_lt_mul'' hx hy
theorem add_lt {x y : Int} {k : Nat} (hx : x.natAbs < 2 ^ k) (hy : y.natAbs < 2 ^ k) : (x + y).natAbs < 2 ^ (k + 1) := by
  have := Int.natAbs_add_le x y
  rw [Nat.pow_succ]; omega
theorem sub_lt' {x y : Int} {k : Nat} (hx : x.natAbs < 2 ^ k) (hy : y.natAbs < 2 ^ k) : (x - y).natAbs < 2 ^ (k + 1) := by
  have := Int.natAbs_sub_le x y
  rw [Nat.pow_succ]; omega
theorem up_lt {x : Int} {k j : Nat} (hx : x.natAbs < 2 ^ k) (h : k ≤ j) : x.natAbs < 2 ^ j := Nat.lt_of_lt_of_le hx (Nat.pow_le_pow_right (by omega) h)
-- slots ['top', 'bottom', 'shared']
-- slots ['one', 'other']
-- slots ['one', 'other']
-- slots ['one', 'other']
-- slots ['one', 'other']
-- slots ['one', 'other']
-- slots ['one', 'two', 'three']
end DL

set_option Elab.async false
set_option linter.all false
set_option maxRecDepth 100000
set_option maxHeartbeats 4000000
set_option exponentiation.threshold 3000
namespace DL
open PySem L2
/-- three numbers in lowest terms, the last above nought -/
structure Low3 (p q r : Int) : Prop where
  pos : 0 < r
  cop : Nat.gcd (Nat.gcd p.natAbs q.natAbs) r.natAbs = 1
theorem dvd_of_low3 {p q r p' q' r' : Int} (h : Low3 p q r) (e : p * r' = p' * r) (e' : q * r' = q' * r) : r.natAbs ∣ r'.natAbs := by
  have e2 : p.natAbs * r'.natAbs = p'.natAbs * r.natAbs := by rw [← Int.natAbs_mul, e, Int.natAbs_mul]
  have e3 : q.natAbs * r'.natAbs = q'.natAbs * r.natAbs := by rw [← Int.natAbs_mul, e', Int.natAbs_mul]
  have hc : Nat.Coprime r.natAbs (Nat.gcd p.natAbs q.natAbs) := by rw [Nat.coprime_comm]; exact h.cop
  refine hc.dvd_of_dvd_mul_left ?_
  rw [← Nat.gcd_mul_right]
  exact Nat.dvd_gcd ⟨p'.natAbs, by rw [e2, Nat.mul_comm]⟩ ⟨q'.natAbs, by rw [e3, Nat.mul_comm]⟩
theorem Low3.uniq {p q r p' q' r' : Int} (h : Low3 p q r) (h' : Low3 p' q' r') (e : p * r' = p' * r) (e' : q * r' = q' * r) : p = p' ∧ q = q' ∧ r = r' := by
  have d1 := dvd_of_low3 h e e'
  have d2 := dvd_of_low3 h' e.symm e'.symm
  have e3 := Nat.dvd_antisymm d1 d2
  have h1 := h.pos
  have h2 := h'.pos
  have eq : r = r' := by omega
  subst eq
  exact ⟨Int.eq_of_mul_eq_mul_right (by omega) e, Int.eq_of_mul_eq_mul_right (by omega) e', rfl⟩
def mk (p q r : Int) : D := .tup [.int p, .int q, .int r]
-- slots ['x', 'y', 'under', 'shared']
-- slots ['point']
-- slots ['place']
-- slots ['place']
-- slots ['one', 'other', 'wide', 'high', 'under']
-- slots ['one', 'other', 'x', 'y']
-- slots ['place', 'by', 'x', 'y']
end DL

set_option Elab.async false
set_option linter.all false
set_option maxRecDepth 100000
set_option maxHeartbeats 4000000
set_option exponentiation.threshold 3000
namespace DL
open PySem L2
def sgn (i : Int) : Int := (if 0 < i then 1 else 0) - (if i < 0 then 1 else 0)
-- slots ['number']
-- slots ['one', 'two', 'three', 'first', 'second']
-- slots ['thing']
-- slots ['way', 'shared']
-- slots ['way']
-- slots ['one', 'other']
-- slots ['one', 'other']
-- slots ['way', 'place']
end DL

set_option Elab.async false
set_option linter.all false
set_option maxRecDepth 100000
set_option maxHeartbeats 4000000
set_option exponentiation.threshold 3000
namespace DL
open PySem L2
/-- a comprehension whose turns let the memory grow -/
theorem w_compX {G : Gam} {elt it cond : IE} {vs tg : List Nat} {ρ : En} {M : Mem} {Q : Kn} {xs : List D} {src : Src} (f : D → Option D) (hit : ∀ S : Src → Mem → Prop, S src M → wpI G it ρ M S) (hs : ∀ M1, Ex M M1 → items M1 src = some xs) (hl : xs.length < sizeLine)
    (he : ∀ x ∈ xs, ∀ M1, Ex M M1 → ∀ R : Option D → Mem → Prop, (∀ M2, Ex M1 M2 → R (f x) M2) → tgV tg x (wipesV ρ vs) fun ρ' => wpC G cond ρ' M1 fun b M2 => if b = true then wpE G elt ρ' M2 fun y M3 => R (some y) M3 else R none M2)
    (q : ∀ M1, Ex M M1 → Q (.lst M1.length) (M1 ++ [xs.filterMap f])) : wpE G (.comp elt vs tg it cond) ρ M Q := by
  refine w_comp (hit _ ?_)
  refine ⟨xs, hs M (Ex.refl M), hl, fun i acc M' => Ex M M' ∧ acc = (xs.take i).filterMap f, ⟨Ex.refl M, by simp⟩, ?_, ?_, ?_⟩
  · rintro i acc M' hi ⟨ex, rfl⟩
    exact ⟨Nat.le_trans (List.length_filterMap_le _ _) (by simp; omega), hs M' ex⟩
  · rintro i x acc M' hx ⟨ex, rfl⟩
    have hi : i < xs.length := (List.getElem?_eq_some_iff.mp hx).1
    have ht : xs.take (i + 1) = xs.take i ++ [x] := by rw [List.take_add_one, hx]; rfl
    refine he x (List.mem_of_getElem? hx) M' ex (fun o M3 => match o with
      | some y => Ex M M3 ∧ (xs.take i).filterMap f ++ [y] = (xs.take (i + 1)).filterMap f
      | none => Ex M M3 ∧ (xs.take i).filterMap f = (xs.take (i + 1)).filterMap f) fun M2 e2 => ?_
    rw [ht, List.filterMap_append]
    cases h : f x <;> simp [h] <;> exact ex.trans e2
  · rintro acc M' ⟨ex, rfl⟩
    rw [List.take_of_length_le (Nat.le_refl _)]
    exact q M' ex
theorem shp2 {p q : Int} : SeqAt.shaped (.tuple [.int p, .int q]) = true := by simp [SeqAt.shaped, PyData.canLay0, PyData.canLayAll0, PyData.depth, PyData.depthAll]
theorem nep2 {p q p' q' : Int} {M : Mem} {Q : Kn} (r : Q (.bl (!decide (p = p' ∧ q = q'))) M) : cmpD .NotEq (.tup [.int p, .int q]) (.tup [.int p', .int q']) M Q := by
  show isOk M _ _ fun b => Q (.bl (!b)) M
  refine ⟨_, _, .tup (.cons (.int _) (.cons (.int _) .nil)), .tup (.cons (.int _) (.cons (.int _) .nil)), shp2, shp2, ?_⟩
  have e : PyData.eqv (.tuple [.int p, .int q]) (.tuple [.int p', .int q']) = decide (p = p' ∧ q = q') := by
    simp [PyData.eqv, PyData.eqvAll]
    by_cases h1 : p = p' <;> by_cases h2 : q = q' <;> simp [h1, h2]
  rw [e]; exact r
theorem eqp2 {p q p' q' : Int} {M : Mem} {Q : Kn} (r : Q (.bl (decide (p = p' ∧ q = q'))) M) : cmpD .Eq (.tup [.int p, .int q]) (.tup [.int p', .int q']) M Q := by
  show isOk M _ _ fun b => Q (.bl b) M
  refine ⟨_, _, .tup (.cons (.int _) (.cons (.int _) .nil)), .tup (.cons (.int _) (.cons (.int _) .nil)), shp2, shp2, ?_⟩
  have e : PyData.eqv (.tuple [.int p, .int q]) (.tuple [.int p', .int q']) = decide (p = p' ∧ q = q') := by
    simp [PyData.eqv, PyData.eqvAll]
    by_cases h1 : p = p' <;> by_cases h2 : q = q' <;> simp [h1, h2]
  rw [e]; exact r
end DL

set_option Elab.async false
set_option linter.all false
set_option maxRecDepth 100000
set_option maxHeartbeats 2000000
set_option exponentiation.threshold 3000
namespace DL
open PySem L2 Hull
/-! points in tuples -/
section
variable {G : Gam} {ρ : En} {M : Mem} {Q : Kn} {p q : Int × Int}
@[simp] theorem seqOf_pt : seqOf M (pt2 p) = some [.int p.1, .int p.2] := rfl
@[simp] theorem unT_pt {P : List D → Prop} : unT (pt2 p) M P = P [.int p.1, .int p.2] := unT_t
@[simp] theorem wpG_pt {g : IG} {P : En → Mem → Prop} : wpG G (.t g) (pt2 p) ρ M P = (2 = lenG g ∧ wpGs G g [.int p.1, .int p.2] ρ M P) := wpG_t
@[simp] theorem tgV_pt {i j : Nat} {is : List Nat} {P : En → Prop} : tgV (i :: j :: is) (pt2 p) ρ P = onV (setsV ρ (i :: j :: is) [.int p.1, .int p.2]) P := tgV_2
@[simp] theorem len_pt : bfD .len [pt2 p] M Q = Q (.int 2) M := rfl
@[simp] theorem isNon_pt : isNon (pt2 p) = false := rfl
theorem pt_dec : decide (p.1 = q.1 ∧ p.2 = q.2) = decide (p = q) := by
  congr 1
  exact propext ⟨fun h => Prod.ext h.1 h.2, fun h => by rw [h]; exact ⟨rfl, rfl⟩⟩
theorem eqpt (r : Q (.bl (decide (p = q))) M) : cmpD .Eq (pt2 p) (pt2 q) M Q := eqp2 (by rw [pt_dec]; exact r)
theorem nept (r : Q (.bl (!decide (p = q))) M) : cmpD .NotEq (pt2 p) (pt2 q) M Q := nep2 (by rw [pt_dec]; exact r)
theorem at_last {xs : List D} {x : D} : atD (xs ++ [x]) (-1) = some x := by
  have e : ixN (xs ++ [x]).length (-1) = some xs.length := by
    unfold ixN
    simp only [List.length_append, List.length_cons, List.length_nil]
    rw [if_neg (by omega), if_pos (by omega)]
    congr 1
    omega
  rw [atD, e]
  simp
def Sm (k : Nat) (p : Int × Int) : Prop := p.1.natAbs < 2 ^ k ∧ p.2.natAbs < 2 ^ k
theorem Sm.up {k j : Nat} (h : Sm k p) (l : k ≤ j) : Sm j p := ⟨up_lt h.1 l, up_lt h.2 l⟩
end
def S_trn : DSpec := fun ds M Q => ∃ (k : Nat) (a b c : Int × Int), ds = [pt2 a, pt2 b, pt2 c] ∧ k ≤ 200000 ∧ Sm k a ∧ Sm k b ∧ Sm k c ∧ Q (.int (tn a b c)) M
def S_aprt : DSpec := fun ds M Q => ∃ (k : Nat) (a b : Int × Int), ds = [pt2 a, pt2 b] ∧ k ≤ 200000 ∧ Sm k a ∧ Sm k b ∧ Q (.int (ap a b)) M
/-- points handed in, in a list or in a tuple -/
def Seq2 (M : Mem) (x : D) (ls : List (Int × Int)) : Prop := (∃ n : Nat, x = .lst n ∧ M[n]? = some (ls.map pt2)) ∨ x = .tup (ls.map pt2)
/-- few enough to be a set: a short list, or a tuple of few unlike ones -/
def Fit (x : D) (ls : List (Int × Int)) : Prop := ls.length ≤ 62 ∨ ((∃ t, x = .tup t) ∧ ∃ us : List (Int × Int), us.length ≤ 62 ∧ ∀ l ∈ ls, l ∈ us)
theorem fit_ok {M : Mem} {x : D} {ls : List (Int × Int)} (h : Seq2 M x ls) (f : Fit x ls) : ((∃ n : Nat, x = .lst n ∧ M[n]? = some (ls.map pt2) ∧ ls.length < 64) ∨ (x = .tup (ls.map pt2) ∧ ∃ us : List (Int × Int), us.length ≤ 62 ∧ ∀ l ∈ ls, l ∈ us)) := by
  rcases h with ⟨n, rfl, h⟩ | rfl
  · rcases f with f | ⟨⟨t, e⟩, _⟩
    · exact .inl ⟨n, rfl, h, by omega⟩
    · cases e
  · rcases f with f | ⟨_, f⟩
    · exact .inr ⟨rfl, ls, f, fun _ h => h⟩
    · exact .inr ⟨rfl, f⟩
def S_rim : DSpec := fun ds M Q => ∃ (k : Nat) (x : D) (ls : List (Int × Int)), ds = [x] ∧ Seq2 M x ls ∧ k ≤ 200000 ∧ ls ≠ [] ∧ Fit x ls ∧ (∀ p ∈ ls, Sm k p) ∧ ∀ R M', Ex M M' → Rim ls R → Q (.tup (R.map pt2)) M'
-- slots ['points', 'found', 'point']
-- slots ['cloud', 'points']
def ir_law_turn_2 : IS :=
  .seq (.ret (.bin .Sub (.var 3) (.bin .Mult (.bin .Sub (.ix (.var 1) (.int 1)) (.ix (.var 0) (.int 1))) (.bin .Sub (.ix (.var 2) (.int 0)) (.ix (.var 0) (.int 0)))))) .skip
def ir_law_turn_1 : IS :=
  .seq (.asg (.v 3) (.bin .Mult (.bin .Sub (.ix (.var 1) (.int 0)) (.ix (.var 0) (.int 0))) (.bin .Sub (.ix (.var 2) (.int 1)) (.ix (.var 0) (.int 1))))) ir_law_turn_2
abbrev ir_law_turn : IS := ir_law_turn_1
-- slots ['_law_one', '_law_two_here', '_law_three', '_law_first']
def ir_law_apart_2 : IS :=
  .seq (.ret (.bin .Add (.bin .Mult (.var 2) (.var 2)) (.bin .Mult (.var 3) (.var 3)))) .skip
def ir_law_apart_1 : IS :=
  .seq (.par [2, 3] (.cons (.bin .Sub (.ix (.var 1) (.int 0)) (.ix (.var 0) (.int 0))) (.cons (.bin .Sub (.ix (.var 1) (.int 1)) (.ix (.var 0) (.int 1))) .nil))) ir_law_apart_2
abbrev ir_law_apart : IS := ir_law_apart_1
-- slots ['_law_one', '_law_two_here', '_law_x', '_law_y']
def ir_law_wrapped_16 : IS :=
  .seq (.ret (.blt .tuple (.cons (.var 2) .nil))) .skip
def ir_law_wrapped_15 : IS :=
  .seq (.ex (.mth .append (.var 2) (.cons (.var 5) .nil))) .skip
def ir_law_wrapped_14 : IS :=
  .seq (.ret (.blt .tuple (.cons (.var 2) .nil))) .skip
def ir_law_wrapped_13 : IS :=
  .seq (.ite (.or (.cmp .Is (.var 5) .non) (.one (.cmp .Eq (.var 5) (.ix (.var 1) (.int 0))))) ir_law_wrapped_14 .skip) ir_law_wrapped_15
def ir_law_wrapped_12 : IS :=
  .seq (.asg (.v 5) (.var 6)) .skip
def ir_law_wrapped_11 : IS :=
  .seq (.ite (.cmp .Lt (.var 7) (.int 0)) ir_law_wrapped_12 .skip) .skip
def ir_law_wrapped_10 : IS :=
  .seq (.asg (.v 7) (.neg (.int 1))) .skip
def ir_law_wrapped_9 : IS :=
  .seq (.ite (.and (.cmp .Eq (.var 7) (.int 0)) (.one (.cmp .Gt (.call "_law_apart" (.cons (.var 4) (.cons (.var 6) .nil))) (.call "_law_apart" (.cons (.var 4) (.cons (.var 5) .nil)))))) ir_law_wrapped_10 .skip) ir_law_wrapped_11
def ir_law_wrapped_8 : IS :=
  .seq (.asg (.v 7) (.ite (.cmp .Is (.var 5) .non) (.neg (.int 1)) (.call "_law_turn" (.cons (.var 4) (.cons (.var 5) (.cons (.var 6) .nil)))))) ir_law_wrapped_9
def ir_law_wrapped_7 : IS :=
  .seq (.ite (.cmp .NotEq (.var 6) (.var 4)) ir_law_wrapped_8 .skip) .skip
def ir_law_wrapped_6 : IS :=
  .seq (.for_ (.v 6) (.cons (.var 1) .nil) ir_law_wrapped_7) ir_law_wrapped_13
def ir_law_wrapped_5 : IS :=
  .seq (.asg (.v 5) .non) ir_law_wrapped_6
def ir_law_wrapped_4 : IS :=
  .seq (.asg (.v 4) (.ix (.var 2) (.neg (.int 1)))) ir_law_wrapped_5
def ir_law_wrapped_3 : IS :=
  .seq (.for_ (.v 3) (.rng1 (.blt .len (.cons (.var 1) .nil))) ir_law_wrapped_4) ir_law_wrapped_16
def ir_law_wrapped_2 : IS :=
  .seq (.asg (.v 2) (.lst (.cons (.ix (.var 1) (.int 0)) .nil))) ir_law_wrapped_3
def ir_law_wrapped_1 : IS :=
  .seq (.asg (.v 1) (.srt (.var 0))) ir_law_wrapped_2
abbrev ir_law_wrapped : IS := ir_law_wrapped_1
-- slots ['_law_points', '_law_some', '_law_rim', '_law_lap', '_law_here', '_law_best', '_law_one', '_law_side']
theorem law_turn_ok (G : Gam) : ∀ ds M Q, S_trn ds M Q → wpS G ir_law_turn (bodyE Q) (startD (4 - ds.length) ds) M := by
  rintro ds M Q ⟨k, a, b, c, rfl, hk, ha, hb, hc, q⟩
  have l1 := lg_of (sub_lt' hb.1 ha.1)
  have l2 := lg_of (sub_lt' hc.2 ha.2)
  have l3 := lg_of (sub_lt' hb.2 ha.2)
  have l4 := lg_of (sub_lt' hc.1 ha.1)
  simp [ir_law_turn_1, ir_law_turn_2, w_ret, w_av, startD]
  exact ⟨by omega, by omega, q⟩
theorem law_apart_ok (G : Gam) : ∀ ds M Q, S_aprt ds M Q → wpS G ir_law_apart (bodyE Q) (startD (4 - ds.length) ds) M := by
  rintro ds M Q ⟨k, a, b, rfl, hk, ha, hb, q⟩
  have l1 := lg_of (sub_lt' hb.1 ha.1)
  have l2 := lg_of (sub_lt' hb.2 ha.2)
  simp [ir_law_apart_1, ir_law_apart_2, w_ret, w_par, startD]
  exact ⟨by omega, by omega, q⟩
def oD : Option (Int × Int) → D
  | none => .non
  | some p => pt2 p
theorem look_at {h p : Int × Int} {o : Option (Int × Int)} (e : p = h) : look h o p = o := if_pos e
theorem look_no {h p : Int × Int} (e : p ≠ h) : look h none p = some p := if_neg e
/-- the outer walk -/
def WrO (M : Mem) (x : D) (ms : List (Int × Int)) (i : Nat) (ρ : En) (M' : Mem) : Prop := ∃ R a b c d e, ρ = [some x, some (.lst M.length), some (.lst (M.length + 1)), a, b, c, d, e] ∧ M' = M ++ [ms.map pt2, R.map pt2] ∧ Way ms R ∧ R.length = i + 1
def WrI (M : Mem) (x : D) (ms R : List (Int × Int)) (h : Int × Int) (i : Nat) (ρ : En) (M' : Mem) : Prop := ∃ a d e, ρ = [some x, some (.lst M.length), some (.lst (M.length + 1)), a, some (pt2 h), some (oD ((ms.take i).foldl (look h) none)), d, e] ∧ M' = M ++ [ms.map pt2, R.map pt2]
theorem best_mem {S : List (Int × Int)} {h b : Int × Int} : ∀ {T : List (Int × Int)} {o : Option (Int × Int)}, (∀ p, o = some p → p ∈ S) → (∀ p ∈ T, p ∈ S) → T.foldl (look h) o = some b → b ∈ S := by
  intro T
  induction T with
  | nil => intro o ho _ e; exact ho b e
  | cons p T ih =>
    intro o ho hT e
    refine ih (o := look h o p) (fun q hq => ?_) (fun q hq => hT q (by simp [hq])) e
    unfold look at hq
    split at hq
    · exact ho q hq
    · cases o with
      | none => cases hq; exact hT p (by simp)
      | some b' =>
        simp only at hq
        split at hq
        · cases hq; exact hT p (by simp)
        · exact ho q hq
theorem law_wrapped_ok (G : Gam) (h1 : G "_law_turn" = S_trn) (h2 : G "_law_apart" = S_aprt) : ∀ ds M Q, S_rim ds M Q → wpS G ir_law_wrapped (bodyE Q) (startD (8 - ds.length) ds) M := by
  rintro ds M Q ⟨k, x, ls, rfl, hx, hk, hne, few, sm, q⟩
  simp [ir_law_wrapped_1, w_av, startD]
  refine Or.inl ⟨ls, fit_ok hx few, fun ms hl hm hs => ?_⟩
  have sm' : ∀ p ∈ ms, Sm k p := fun p hp => sm p ((hm p).mp hp)
  have msne : ms ≠ [] := by
    intro z
    cases ls with
    | nil => exact hne rfl
    | cons p _ => have := (hm p).mpr (by simp); rw [z] at this; cases this
  obtain ⟨m0, mt, em⟩ : ∃ m0 mt, ms = m0 :: mt := by
    cases ms with
    | nil => exact (msne rfl).elim
    | cons a b => exact ⟨a, b, rfl⟩
  have m0in : m0 ∈ ms := by rw [em]; simp
  have m0min : ∀ s ∈ ms, ¬ Lx s m0 := by
    intro s hs' l
    rw [em] at hs hs'
    rcases List.mem_cons.mp hs' with rfl | h
    · unfold Lx at l; omega
    · have := (List.pairwise_cons.mp hs).1 s h
      unfold Lx at l this; omega
  have g0 : (ms.map pt2)[0]? = some (pt2 m0) := by rw [em]; rfl
  have g1 : ms[0]? = some m0 := by rw [em]; rfl
  have way_hd : ∀ {R : List (Int × Int)}, Way ms R → R.head? = some m0 := by
    rintro R ⟨a, l, h, rfl, _, ha, hmn, _⟩
    rw [lx_eq (hmn m0 m0in) (m0min a ha)]; rfl
  simp [ir_law_wrapped_2, w_av, g0, sz_eq]
  refine w_for ?_
  simp
  refine ⟨by omega, WrO M x ms, ⟨[m0], none, none, none, none, none, rfl, by simp, way_0 m0in m0min, rfl⟩, ?_, ?_⟩
  · rintro i y ρ M' hi ⟨R, a, b, c, d, e, rfl, rfl, way, hlen⟩
    have hi' : i < ms.length := by
      have := (List.getElem?_eq_some_iff.mp hi).1
      rwa [rngD_len] at this
    obtain ⟨h, hlast⟩ : ∃ h, R.getLast? = some h := by
      obtain ⟨_, _, h, _, e, _⟩ := way
      exact ⟨h, e⟩
    obtain ⟨R0, eR⟩ := last_split hlast
    have hin : h ∈ ms := way_sub way h (by rw [eR]; simp)
    have gl : atD (R.map pt2) (-1) = some (pt2 h) := by rw [eR, List.map_append]; exact at_last
    simp [ir_law_wrapped_4, w_av, gl, ir_law_wrapped_5]
    refine w_for ?_
    simp
    refine ⟨WrI M x ms R h, ⟨some y, d, e, rfl, rfl⟩, ?_, ?_, ?_⟩
    · rintro j ρ M' _ ⟨_, _, _, _, rfl⟩; simp
    · rintro j z ρ M' px py hp rfl ⟨a, d, e, rfl, rfl⟩
      generalize (px, py) = p at hp ⊢
      have hpin : p ∈ ms := List.mem_of_getElem? hp
      have st : ms.take (j + 1) = ms.take j ++ [p] := by rw [List.take_add_one, hp]; rfl
      have bmem : ∀ b, (ms.take j).foldl (look h) none = some b → b ∈ ms := fun b hb => best_mem (fun _ z => by cases z) (fun p hp => List.mem_of_mem_take hp) hb
      generalize ho : (ms.take j).foldl (look h) none = o at bmem
      have done : ∀ d e, WrI M x ms R h (j + 1) [some x, some (.lst M.length), some (.lst (M.length + 1)), a, some (pt2 h), some (oD (look h o p)), d, e] (M ++ [ms.map pt2, R.map pt2]) := fun d e => ⟨a, d, e, by rw [st, List.foldl_append, ho]; rfl, rfl⟩
      simp [ir_law_wrapped_7, w_ite, w_skip]
      refine nept ?_
      simp
      by_cases eq : p = h
      · simp [eq]
        have := done (some (pt2 p)) e
        rw [look_at eq, eq] at this
        exact this
      · simp [eq, ir_law_wrapped_8, w_av]
        cases o with
        | none =>
          simp [oD, isNon, ir_law_wrapped_9, w_ite, w_skip, ir_law_wrapped_11, ir_law_wrapped_12, w_av]
          have := done (some (pt2 p)) (some (.int (-1)))
          rw [look_no eq] at this
          exact this
        | some b =>
          have hb := bmem b rfl
          have lk : look h (some b) p = if tn h b p < 0 ∨ (tn h b p = 0 ∧ ap h b < ap h p) then some p else some b := by rw [look, if_neg eq]
          rw [lk] at done
          simp [oD, h1]
          refine ⟨k, h, b, p, rfl, hk, sm' h hin, sm' b hb, sm' p hpin, ?_⟩
          simp [ir_law_wrapped_9, w_ite]
          by_cases z : tn h b p = 0
          · simp [z, h2]
            refine ⟨k, h, p, rfl, hk, sm' h hin, sm' p hpin, k, h, b, rfl, hk, sm' h hin, sm' b hb, ?_⟩
            simp
            by_cases w : ap h b < ap h p
            · simp [w, ir_law_wrapped_10, w_av, w_skip, ir_law_wrapped_11, w_ite, ir_law_wrapped_12]
              have := done (some (pt2 p)) (some (.int (-1)))
              rw [if_pos (.inr ⟨z, w⟩)] at this
              exact this
            · simp [w, w_skip, ir_law_wrapped_11, w_ite, z]
              have := done (some (pt2 p)) (some (.int 0))
              rw [if_neg (by rw [z]; simp [w])] at this
              exact this
          · simp [z, w_skip, ir_law_wrapped_11, w_ite, ir_law_wrapped_12, w_av]
            by_cases w : tn h b p < 0
            · simp [w]
              have := done (some (pt2 p)) (some (.int (tn h b p)))
              rw [if_pos (.inl w)] at this
              exact this
            · simp [w]
              have := done (some (pt2 p)) (some (.int (tn h b p)))
              rw [if_neg (by simp [w, z])] at this
              exact this
    · rintro ρ M' ⟨a, d, e, rfl, rfl⟩
      have all : ms.take ms.length = ms := List.take_length
      simp [ir_law_wrapped_13, w_ite, w_skip, all]
      have ex : Ex M (M ++ [ms.map pt2, R.map pt2]) := ⟨_, rfl⟩
      have fin : Rim ms R → Q (.tup (R.map pt2)) (M ++ [ms.map pt2, R.map pt2]) := fun r => q R _ ex (r.congr hm)
      show (_ : Prop)
      cases ho : ms.foldl (look h) none with
      | none =>
        simp [oD, isNon, ir_law_wrapped_14, w_ret]
        exact fin (way_none way hlast ho)
      | some b =>
        have hb : b ∈ ms := best_mem (fun _ z => by cases z) (fun p hp => hp) ho
        simp [oD, g1]
        refine eqpt ?_
        by_cases z : b = m0
        · subst z
          simp [ir_law_wrapped_14, w_ret]
          exact fin (way_end way hlast (way_hd way) ho)
        · have rl := way_len way
          simp [z, ir_law_wrapped_15, w_ex, w_skip, sz_eq]
          refine ⟨by omega, R ++ [b], _, _, _, _, _, rfl, by simp, way_more way hlast (way_hd way) ho z, by simp [hlen]⟩
  · rintro ρ M' ⟨R, a, b, c, d, e, rfl, rfl, way, hlen⟩
    have := way_len way
    rw [rngD_len] at hlen
    omega
end DL

set_option Elab.async false
set_option linter.all false
set_option maxRecDepth 100000
set_option maxHeartbeats 2000000
set_option exponentiation.threshold 3000
namespace DL
open PySem L2 Hull
/-- the pile of so many -/
def pl (ls : List (Int × Int)) (i : Nat) : List (Int × Int) := (ls.take i).foldl (fun st p => p :: pops p st) []
theorem cut_m1 {xs : List D} : cutD xs none (some (-1)) = xs.dropLast := by
  unfold cutD
  have e1 : HT.sIx xs.length 0 none = 0 := rfl
  rw [e1]
  have e2 : HT.sIx xs.length xs.length (some (-1)) = xs.length - 1 := by
    unfold HT.sIx
    simp
    omega
  rw [e2, List.dropLast_eq_take]
  simp
end DL

set_option Elab.async false
set_option linter.all false
set_option maxRecDepth 100000
set_option maxHeartbeats 2000000
set_option exponentiation.threshold 3000
namespace DL
open PySem L2 Hull
/-! comprehensions, the source behind its own sums -/
def CRest (G : Gam) (elt cond : IE) (vs tg : List Nat) (ρ : En) (Q : Kn) (src : Src) (M1 : Mem) : Prop := ∃ xs, items M1 src = some xs ∧ xs.length < sizeLine ∧ ∃ Pv : Nat → List D → Mem → Prop, Pv 0 [] M1 ∧
      (∀ i acc M, i ≤ xs.length → Pv i acc M → acc.length ≤ i ∧ items M src = some xs) ∧
      (∀ i x acc M, xs[i]? = some x → Pv i acc M → tgV tg x (wipesV ρ vs) fun ρ' => wpC G cond ρ' M fun b M2 =>
        if b = true then wpE G elt ρ' M2 fun y M3 => Pv (i + 1) (acc ++ [y]) M3 else Pv (i + 1) acc M2) ∧
      ∀ acc M, Pv xs.length acc M → Q (.lst M.length) (M ++ [acc])
theorem w_compG {G : Gam} {elt it cond : IE} {vs tg : List Nat} {ρ : En} {M : Mem} {Q : Kn} (h : wpI G it ρ M fun src M1 => CRest G elt cond vs tg ρ Q src M1) : wpE G (.comp elt vs tg it cond) ρ M Q := w_comp h
theorem rest_pure {G : Gam} {elt cond : IE} {vs tg : List Nat} {ρ : En} {M : Mem} {Q : Kn} {src : Src} {xs : List D} (f : D → Option D) (hs : items M src = some xs) (hl : xs.length < sizeLine)
    (he : ∀ x ∈ xs, ∀ R : Option D → Mem → Prop, R (f x) M → tgV tg x (wipesV ρ vs) fun ρ' => wpC G cond ρ' M fun b M2 => if b = true then wpE G elt ρ' M2 fun y M3 => R (some y) M3 else R none M2)
    (q : Q (.lst M.length) (M ++ [xs.filterMap f])) : CRest G elt cond vs tg ρ Q src M := by
  refine ⟨xs, hs, hl, fun i acc M' => M' = M ∧ acc = (xs.take i).filterMap f, ⟨rfl, by simp⟩, ?_, ?_, ?_⟩
  · rintro i acc M' hi ⟨rfl, rfl⟩
    exact ⟨Nat.le_trans (List.length_filterMap_le _ _) (by simp; omega), hs⟩
  · rintro i x acc M' hx ⟨rfl, rfl⟩
    have ht : xs.take (i + 1) = xs.take i ++ [x] := by rw [List.take_add_one, hx]; rfl
    refine he x (List.mem_of_getElem? hx) (fun o M3 => match o with
      | some y => M3 = M' ∧ (xs.take i).filterMap f ++ [y] = (xs.take (i + 1)).filterMap f
      | none => M3 = M' ∧ (xs.take i).filterMap f = (xs.take (i + 1)).filterMap f) ?_
    rw [ht, List.filterMap_append]
    cases h : f x <;> simp [h]
  · rintro acc M' ⟨rfl, rfl⟩
    rw [List.take_of_length_le (Nat.le_refl _)]
    exact q
theorem rest_draw {G : Gam} {elt : IE} {vs tg : List Nat} {ρ : En} {M : Mem} {Q : Kn} {src : Src} {xs : List D} {n a : Nat} (s : Nat) (P : Mem → D → Prop) (F : Feed n a M) (hl : xs.length < 16777216)
    (hs : ∀ b M1, Fx n b M M1 → items M1 src = some xs) (hP : ∀ M1 M2 b x, P M1 x → Fx n b M1 M2 → P M2 x)
    (he : ∀ i x M1 (R : Kn), xs[i]? = some x → i < xs.length → Fx n (a + s * i) M M1 → (∀ y M2, Fx n (a + s * i + s) M1 M2 → P M2 y → R y M2) → tgV tg x (wipesV ρ vs) fun ρ' => wpE G elt ρ' M1 R)
    (q : ∀ acc M1, acc.length = xs.length → Fx n (a + s * xs.length) M M1 → (∀ x ∈ acc, P M1 x) → Q (.lst M1.length) (M1 ++ [acc])) : CRest G elt .nil vs tg ρ Q src M := by
  refine ⟨xs, hs a M (Fx.refl F), by rw [sz_eq]; exact hl, fun i acc M1 => Fx n (a + s * i) M M1 ∧ acc.length = i ∧ ∀ x ∈ acc, P M1 x, ⟨(Fx.refl F).mono (by omega), rfl, fun _ h => by cases h⟩, fun i acc M5 _ h => ⟨Nat.le_of_eq h.2.1, hs _ _ h.1⟩, ?_, ?_⟩
  · rintro i x acc M5 hx ⟨f5, la, hacc⟩
    have hi : i < xs.length := (List.getElem?_eq_some_iff.mp hx).1
    simp only [wpC_nil, if_true]
    refine he i x M5 _ hx hi f5 fun y M2 f6 hy => ⟨(f5.trans f6).mono (by rw [Nat.mul_succ]; omega), by simp [la], ?_⟩
    intro z hz
    rcases List.mem_append.mp hz with h | h
    · exact hP _ _ _ _ (hacc z h) f6
    · rw [List.mem_singleton.mp h]
      exact hy
  · rintro acc M5 ⟨f5, la, hacc⟩
    exact q acc M5 la f5 hacc
def unpt : D → Int × Int
  | .tup [.int a, .int b] => (a, b)
  | _ => (0, 0)
@[simp] theorem unpt_pt {p : Int × Int} : unpt (pt2 p) = p := rfl
theorem map_pts {f : Int × Int → D} : ∀ {ls : List (Int × Int)}, (ls.map pt2).filterMap (fun d => some (f (unpt d))) = ls.map f
  | [] => rfl
  | p :: ls => by
    have := map_pts (f := f) (ls := ls)
    rw [List.map_cons, List.filterMap_cons, List.map_cons, this, unpt_pt]
theorem Seq2.seq {M : Mem} {x : D} {ls : List (Int × Int)} (h : Seq2 M x ls) : seqOf M x = some (ls.map pt2) := by
  rcases h with ⟨n, rfl, h⟩ | rfl
  · exact h
  · rfl
theorem Seq2.ex {M M' : Mem} {x : D} {ls : List (Int × Int)} (h : Seq2 M x ls) (e : Ex M M') : Seq2 M' x ls := by
  rcases h with ⟨n, rfl, h⟩ | rfl
  · exact .inl ⟨n, rfl, e.get h⟩
  · exact .inr rfl
theorem all_pts {S : Int × Int → Prop} : ∀ {acc : List D}, (∀ y ∈ acc, ∃ p, y = pt2 p ∧ S p) → ∃ ls : List (Int × Int), acc = ls.map pt2 ∧ ∀ p ∈ ls, S p
  | [], _ => ⟨[], rfl, fun _ h => by cases h⟩
  | y :: acc, h => by
    obtain ⟨ls, e, hs⟩ := all_pts (S := S) (acc := acc) fun z hz => h z (by simp [hz])
    obtain ⟨p, rfl, hp⟩ := h y (by simp)
    exact ⟨p :: ls, by rw [e]; rfl, fun z hz => by rcases List.mem_cons.mp hz with rfl | hz; exact hp; exact hs z hz⟩
theorem rngD_map (lo : Int) (n : Nat) : rngD lo n = (List.range n).map fun (i : Nat) => D.int (lo + i) := by
  apply List.ext_getElem?
  intro i
  rw [rngD_get, List.getElem?_map]
  by_cases h : i < n
  · rw [if_pos h, List.getElem?_range h]; rfl
  · rw [if_neg h, List.getElem?_eq_none (by simp; omega)]; rfl
def S_far : DSpec := fun ds M Q => ∃ n a, ds = [.lst n] ∧ Feed n a M ∧ a < 2 ^ 59 ∧ ∀ r M', r.natAbs < 2 ^ 40 → Fx n (a + 3) M M' → Q (.int r) M'
def ledp (a b c d : Int) (by_ p : Int × Int) : Int × Int := (a * p.1 + b * p.2 + by_.1, c * p.1 + d * p.2 + by_.2)
def S_led : DSpec := fun ds M Q => ∃ (k : Nat) (x : D) (ls : List (Int × Int)) (a b c d : Int) (by_ : Int × Int), ds = [x, .tup [.int a, .int b, .int c, .int d], pt2 by_] ∧ Seq2 M x ls ∧ ls.length < 10000 ∧ k ≤ 200000 ∧ (∀ p ∈ ls, Sm k p) ∧
  lg a < 2000 ∧ lg b < 2000 ∧ lg c < 2000 ∧ lg d < 2000 ∧ Q (.lst M.length) (M ++ [(ls.map (ledp a b c d by_)).map pt2])
/-- points drawn, at least one, at most so many -/
def Drawn (n a most : Nat) (M : Mem) (Q : Kn) : Prop := ∀ ls l M', Fx n (a + 100) M M' → M.length ≤ l → M'[l]? = some (ls.map pt2) → ls ≠ [] → ls.length ≤ most → (∀ p ∈ ls, Sm 44 p) → Q (.lst l) M'
def S_bowl : DSpec := fun ds M Q => ∃ n a most : Nat, ds = [.lst n, .int most] ∧ Feed n a M ∧ a < 2 ^ 59 ∧ 3 ≤ most ∧ most ≤ 40 ∧ Drawn n a most M Q
def S_even : DSpec := fun ds M Q => ∃ n a most : Nat, ds = [.lst n, .int most] ∧ Feed n a M ∧ a < 2 ^ 59 ∧ 4 ≤ most ∧ most ≤ 24 ∧ Drawn n a most M Q
def S_line : DSpec := fun ds M Q => ∃ n a : Nat, ds = [.lst n] ∧ Feed n a M ∧ a < 2 ^ 59 ∧ Drawn n a 5 M Q
def DrawnC (n a most : Nat) (M : Mem) (Q : Kn) : Prop := ∀ ls l M', Fx n (a + 200) M M' → M.length ≤ l → M'[l]? = some (ls.map pt2) → ls ≠ [] → ls.length ≤ most → (∀ p ∈ ls, Sm 44 p) → Q (.lst l) M'
def S_cloud : DSpec := fun ds M Q => ∃ n a most : Nat, ds = [.lst n, .int most] ∧ Feed n a M ∧ a < 2 ^ 58 ∧ 6 ≤ most ∧ most ≤ 40 ∧ DrawnC n a most M Q
def ir_law_far_1 : IS :=
  .seq (.ret (.bin .Mult (.bin .Add (.bin .Mult (.call "_law_draw" (.cons (.var 0) (.cons (.bin .Pow (.int 10) (.int 6)) .nil))) (.bin .Pow (.int 10) (.int 6))) (.call "_law_draw" (.cons (.var 0) (.cons (.bin .Pow (.int 10) (.int 6)) .nil)))) (.ix (.lst (.cons (.int 1) (.cons (.neg (.int 1)) .nil))) (.call "_law_draw" (.cons (.var 0) (.cons (.int 2) .nil)))))) .skip
abbrev ir_law_far : IS := ir_law_far_1
-- slots ['_law_feed_here']
def ir_law_led_2 : IS :=
  .seq (.ret (.comp (.tup (.cons (.bin .Add (.bin .Add (.bin .Mult (.var 3) (.var 7)) (.bin .Mult (.var 4) (.var 8))) (.ix (.var 2) (.int 0))) (.cons (.bin .Add (.bin .Add (.bin .Mult (.var 5) (.var 7)) (.bin .Mult (.var 6) (.var 8))) (.ix (.var 2) (.int 1))) .nil))) [7, 8] [7, 8] (.cons (.var 0) .nil) .nil)) .skip
def ir_law_led_1 : IS :=
  .seq (.asg (.t (.cons (.v 3) (.cons (.v 4) (.cons (.v 5) (.cons (.v 6) .nil))))) (.var 1)) ir_law_led_2
abbrev ir_law_led : IS := ir_law_led_1
-- slots ['_law_points', '_law_table', '_law_by', '_law_a', '_law_b', '_law_c', '_law_d', '_law_x', '_law_y']
def ir_law_bowl_5 : IS :=
  .seq (.ret (.call "_law_led" (.cons (.comp (.tup (.cons (.var 6) (.cons (.bin .Mult (.var 6) (.var 6)) .nil))) [6] [6] (.rng2 (.var 4) (.bin .Add (.var 4) (.var 2))) .nil) (.cons (.var 3) (.cons (.var 5) .nil))))) .skip
def ir_law_bowl_4 : IS :=
  .seq (.asg (.v 5) (.tup (.cons (.bin .Sub (.call "_law_draw" (.cons (.var 0) (.cons (.int 9) .nil))) (.int 4)) (.cons (.bin .Sub (.call "_law_draw" (.cons (.var 0) (.cons (.int 9) .nil))) (.int 4)) .nil)))) ir_law_bowl_5
def ir_law_bowl_3 : IS :=
  .seq (.asg (.v 4) (.bin .Sub (.int 0) (.call "_law_draw" (.cons (.var 0) (.cons (.var 2) .nil))))) ir_law_bowl_4
def ir_law_bowl_2 : IS :=
  .seq (.asg (.v 3) (.ix (.lst (.cons (.tup (.cons (.int 1) (.cons (.int 0) (.cons (.int 0) (.cons (.int 1) .nil))))) (.cons (.tup (.cons (.int 0) (.cons (.neg (.int 1)) (.cons (.int 1) (.cons (.int 0) .nil))))) (.cons (.tup (.cons (.int 2) (.cons (.int 1) (.cons (.int 1) (.cons (.int 1) .nil))))) (.cons (.tup (.cons (.int 1) (.cons (.int 1) (.cons (.neg (.int 1)) (.cons (.int 0) .nil))))) (.cons (.tup (.cons (.int 3) (.cons (.neg (.int 1)) (.cons (.int 1) (.cons (.int 2) .nil))))) .nil)))))) (.call "_law_draw" (.cons (.var 0) (.cons (.int 5) .nil))))) ir_law_bowl_3
def ir_law_bowl_1 : IS :=
  .seq (.asg (.v 2) (.bin .Add (.int 3) (.call "_law_draw" (.cons (.var 0) (.cons (.bin .Sub (.var 1) (.int 2)) .nil))))) ir_law_bowl_2
abbrev ir_law_bowl : IS := ir_law_bowl_1
-- slots ['_law_feed_here', '_law_most', '_law_many', '_law_table', '_law_begin', '_law_by', '_law_k']
def ir_law_even_10 : IS :=
  .seq (.ret (.sl (.var 5) (.cons (.int 1) .nil) .nil)) .skip
def ir_law_even_9 : IS :=
  .seq (.ex (.mth .append (.var 5) (.cons (.tup (.cons (.bin .Add (.ix (.ix (.var 5) (.neg (.int 1))) (.int 0)) (.bin .Mult (.bin .Mult (.var 6) (.var 8)) (.ix (.var 7) (.int 0)))) (.cons (.bin .Add (.ix (.ix (.var 5) (.neg (.int 1))) (.int 1)) (.bin .Mult (.bin .Mult (.var 6) (.var 8)) (.ix (.var 7) (.int 1)))) .nil))) .nil))) .skip
def ir_law_even_8 : IS :=
  .seq (.for_ (.t (.cons (.v 7) (.cons (.v 8) .nil))) (.zip (.var 2) (.var 4)) ir_law_even_9) .skip
def ir_law_even_7 : IS :=
  .seq (.for_ (.v 6) (.cons (.tup (.cons (.int 1) (.cons (.neg (.int 1)) .nil))) .nil) ir_law_even_8) ir_law_even_10
def ir_law_even_6 : IS :=
  .seq (.asg (.v 5) (.lst (.cons (.tup (.cons (.int 0) (.cons (.int 0) .nil))) .nil))) ir_law_even_7
def ir_law_even_5 : IS :=
  .seq (.asg (.v 4) (.comp (.bin .Add (.int 1) (.call "_law_draw" (.cons (.var 0) (.cons (.int 3) .nil)))) [7] [7] (.cons (.var 2) .nil) .nil)) ir_law_even_6
def ir_law_even_4 : IS :=
  .seq (.ex (.mth .pop (.var 2) (.cons (.call "_law_draw" (.cons (.var 0) (.cons (.blt .len (.cons (.var 2) .nil)) .nil))) .nil))) .skip
def ir_law_even_3 : IS :=
  .seq (.whl (.cmp .Gt (.blt .len (.cons (.var 2) .nil)) (.var 3)) ir_law_even_4) ir_law_even_5
def ir_law_even_2 : IS :=
  .seq (.asg (.v 3) (.bin .Add (.int 2) (.call "_law_draw" (.cons (.var 0) (.cons (.bin .Sub (.bin .FloorDiv (.var 1) (.int 2)) (.int 1)) .nil))))) ir_law_even_3
def ir_law_even_1 : IS :=
  .seq (.asg (.v 2) (.lst (.cons (.tup (.cons (.int 1) (.cons (.int 0) .nil))) (.cons (.tup (.cons (.int 3) (.cons (.int 1) .nil))) (.cons (.tup (.cons (.int 2) (.cons (.int 1) .nil))) (.cons (.tup (.cons (.int 1) (.cons (.int 1) .nil))) (.cons (.tup (.cons (.int 1) (.cons (.int 2) .nil))) (.cons (.tup (.cons (.int 1) (.cons (.int 3) .nil))) (.cons (.tup (.cons (.int 0) (.cons (.int 1) .nil))) (.cons (.tup (.cons (.neg (.int 1)) (.cons (.int 3) .nil))) (.cons (.tup (.cons (.neg (.int 1)) (.cons (.int 2) .nil))) (.cons (.tup (.cons (.neg (.int 1)) (.cons (.int 1) .nil))) (.cons (.tup (.cons (.neg (.int 2)) (.cons (.int 1) .nil))) (.cons (.tup (.cons (.neg (.int 3)) (.cons (.int 1) .nil))) .nil)))))))))))))) ir_law_even_2
abbrev ir_law_even : IS := ir_law_even_1
-- slots ['_law_feed_here', '_law_most', '_law_ways', '_law_many', '_law_sizes', '_law_found', '_law_sign', '_law_way', '_law_size']
def ir_law_line_3 : IS :=
  .seq (.ret (.comp (.tup (.cons (.bin .Add (.var 1) (.bin .Mult (.var 5) (.var 3))) (.cons (.bin .Add (.var 2) (.bin .Mult (.var 5) (.var 4))) .nil))) [5] [5] (.rng1 (.bin .Add (.int 1) (.call "_law_draw" (.cons (.var 0) (.cons (.int 5) .nil))))) .nil)) .skip
def ir_law_line_2 : IS :=
  .seq (.asg (.t (.cons (.v 3) (.cons (.v 4) .nil))) (.tup (.cons (.bin .Sub (.call "_law_draw" (.cons (.var 0) (.cons (.int 5) .nil))) (.int 2)) (.cons (.bin .Sub (.call "_law_draw" (.cons (.var 0) (.cons (.int 5) .nil))) (.int 2)) .nil)))) ir_law_line_3
def ir_law_line_1 : IS :=
  .seq (.asg (.t (.cons (.v 1) (.cons (.v 2) .nil))) (.tup (.cons (.bin .Sub (.call "_law_draw" (.cons (.var 0) (.cons (.int 9) .nil))) (.int 4)) (.cons (.bin .Sub (.call "_law_draw" (.cons (.var 0) (.cons (.int 9) .nil))) (.int 4)) .nil)))) ir_law_line_2
abbrev ir_law_line : IS := ir_law_line_1
-- slots ['_law_feed_here', '_law_x', '_law_y', '_law_a', '_law_b', '_law_k']
def ir_law_cloud_14 : IS :=
  .seq (.ret (.comp (.tup (.cons (.call "_law_draw" (.cons (.var 0) (.cons (.var 4) .nil))) (.cons (.call "_law_draw" (.cons (.var 0) (.cons (.var 4) .nil))) .nil))) [5] [5] (.rng1 (.bin .Add (.int 1) (.call "_law_draw" (.cons (.var 0) (.cons (.var 1) .nil))))) .nil)) .skip
def ir_law_cloud_13 : IS :=
  .seq (.asg (.v 4) (.ix (.lst (.cons (.int 2) (.cons (.int 3) (.cons (.int 5) (.cons (.int 9) (.cons (.int 20) .nil)))))) (.call "_law_draw" (.cons (.var 0) (.cons (.int 5) .nil))))) ir_law_cloud_14
def ir_law_cloud_12 : IS :=
  .seq (.ret (.sl (.lst (.cons (.tup (.cons (.int 0) (.cons (.int 0) .nil))) (.cons (.tup (.cons (.var 3) (.cons (.int 1) .nil))) (.cons (.tup (.cons (.bin .Add (.var 3) (.int 1)) (.cons (.int 1) .nil))) (.cons (.tup (.cons (.bin .Add (.bin .Mult (.int 2) (.var 3)) (.int 1)) (.cons (.bin .Add (.int 2) (.call "_law_draw" (.cons (.var 0) (.cons (.int 2) .nil)))) .nil))) .nil))))) .nil (.cons (.bin .Add (.int 2) (.call "_law_draw" (.cons (.var 0) (.cons (.int 3) .nil)))) .nil))) .skip
def ir_law_cloud_11 : IS :=
  .seq (.asg (.v 3) (.ix (.lst (.cons (.int 7) (.cons (.int 1000) (.cons (.bin .Pow (.int 10) (.int 11)) .nil)))) (.call "_law_draw" (.cons (.var 0) (.cons (.int 3) .nil))))) ir_law_cloud_12
def ir_law_cloud_10 : IS :=
  .seq (.ite (.cmp .Eq (.var 2) (.int 4)) ir_law_cloud_11 .skip) ir_law_cloud_13
def ir_law_cloud_9 : IS :=
  .seq (.ret (.comp (.tup (.cons (.call "_law_far" (.cons (.var 0) .nil)) (.cons (.call "_law_far" (.cons (.var 0) .nil)) .nil))) [5] [5] (.rng1 (.bin .Add (.int 1) (.call "_law_draw" (.cons (.var 0) (.cons (.int 6) .nil))))) .nil)) .skip
def ir_law_cloud_8 : IS :=
  .seq (.ite (.cmp .Eq (.var 2) (.int 3)) ir_law_cloud_9 .skip) ir_law_cloud_10
def ir_law_cloud_7 : IS :=
  .seq (.ret (.call "_law_even" (.cons (.var 0) (.cons (.blt .min (.cons (.var 1) (.cons (.int 24) .nil))) .nil)))) .skip
def ir_law_cloud_6 : IS :=
  .seq (.ite (.cmp .Eq (.var 2) (.int 2)) ir_law_cloud_7 .skip) ir_law_cloud_8
def ir_law_cloud_5 : IS :=
  .seq (.ret (.call "_law_bowl" (.cons (.var 0) (.cons (.blt .min (.cons (.var 1) (.cons (.int 24) .nil))) .nil)))) .skip
def ir_law_cloud_4 : IS :=
  .seq (.ite (.cmp .Eq (.var 2) (.int 1)) ir_law_cloud_5 .skip) ir_law_cloud_6
def ir_law_cloud_3 : IS :=
  .seq (.ret (.call "_law_line" (.cons (.var 0) .nil))) .skip
def ir_law_cloud_2 : IS :=
  .seq (.ite (.cmp .Eq (.var 2) (.int 0)) ir_law_cloud_3 .skip) ir_law_cloud_4
def ir_law_cloud_1 : IS :=
  .seq (.asg (.v 2) (.call "_law_draw" (.cons (.var 0) (.cons (.int 10) .nil)))) ir_law_cloud_2
abbrev ir_law_cloud : IS := ir_law_cloud_1
-- slots ['_law_feed_here', '_law_most', '_law_way', '_law_long', '_law_wide', '_law_k']
theorem law_far_ok (G : Gam) (hd : G "_law_draw" = S_draw) : ∀ ds M Q, S_far ds M Q → wpS G ir_law_far (bodyE Q) (startD (1 - ds.length) ds) M := by
  rintro ds M Q ⟨n, a, rfl, F, ha, q⟩
  simp [ir_law_far_1, w_ret, startD, hd, sz_eq]
  refine ⟨n, a, 1000000, rfl, F, by omega, by decide, by decide, fun r1 M1 r10 r11 f1 => ?_⟩
  have l1 : lg r1 ≤ 20 := lg_of (by omega)
  have l2 : lg 1000000 ≤ 20 := lg_of (by decide)
  simp
  refine ⟨by omega, n, a + 1, 1000000, rfl, f1.feed, by omega, by decide, by decide, fun r2 M2 r20 r21 f2 => ?_⟩
  simp [sz_eq]
  refine ⟨n, a + 2, 2, rfl, f2.feed.app _, by omega, by decide, by decide, fun r3 M3 r30 r31 f3 => ?_⟩
  have g := Fx.top f2.feed f3
  have f : Fx n (a + 3) M M3 := f1.trans (f2.trans f3.tail)
  have big : (r1 * 1000000 + r2).natAbs < 2 ^ 40 := by omega
  have lb := lg_of big
  simp [g]
  have one : lg 1 = 0 := by decide
  have mone : lg (-1) = 0 := by decide
  rcases (by omega : r3 = 0 ∨ r3 = 1) with rfl | rfl
  · simp [one]
    exact ⟨by omega, q _ _ big f⟩
  · simp [mone]
    exact ⟨by omega, q _ _ (by omega) f⟩
theorem law_led_ok (G : Gam) : ∀ ds M Q, S_led ds M Q → wpS G ir_law_led (bodyE Q) (startD (9 - ds.length) ds) M := by
  rintro ds M Q ⟨k, x, ls, a, b, c, d, bb, rfl, hx, few, hk, sm, la, lb, lc, ld, q⟩
  simp [ir_law_led_1, ir_law_led_2, w_at, w_ret, startD]
  refine w_compG ?_
  simp
  refine ⟨rest_pure (xs := ls.map pt2) (fun z => some (pt2 (ledp a b c d bb (unpt z)))) (by simpa using hx.seq) (by rw [List.length_map, sz_eq]; omega) ?_ ?_, _, hx.seq⟩
  · intro z hz R hR
    obtain ⟨p, hp, rfl⟩ := List.mem_map.mp hz
    have sp := sm p hp
    have l1 := lg_of sp.1
    have l2 := lg_of sp.2
    simp [sz_eq]
    exact ⟨by omega, by omega, by omega, by omega, hR⟩
  · rw [map_pts (f := fun p => pt2 (ledp a b c d bb p))]
    simpa [Function.comp_def] using q
end DL

set_option Elab.async false
set_option linter.all false
set_option maxRecDepth 100000
set_option maxHeartbeats 4000000
set_option exponentiation.threshold 3000
namespace DL
open PySem L2 Hull
theorem rng_pts {f : Int → Int × Int} (lo : Int) (n : Nat) : (rngD lo n).filterMap (fun d => match d with | .int i => some (pt2 (f i)) | _ => none) = ((List.range n).map fun (i : Nat) => f (lo + i)).map pt2 := by
  rw [rngD_map, List.filterMap_map, List.map_map]
  induction List.range n with
  | nil => rfl
  | cons i l ih =>
    rw [List.filterMap_cons, List.map_cons, ← ih]
    rfl
theorem abs_mul_le {x y : Int} {m n : Nat} (hx : x.natAbs ≤ m) (hy : y.natAbs ≤ n) : (x * y).natAbs ≤ m * n := by
  rw [Int.natAbs_mul]; exact Nat.mul_le_mul hx hy
theorem law_bowl_ok (G : Gam) (hd : G "_law_draw" = S_draw) (hl : G "_law_led" = S_led) : ∀ ds M Q, S_bowl ds M Q → wpS G ir_law_bowl (bodyE Q) (startD (7 - ds.length) ds) M := by
  rintro ds M Q ⟨n, a, most, rfl, F, ha, m3, m40, q⟩
  simp [ir_law_bowl_1, w_av, startD, hd]
  refine ⟨n, a, (most : Int) - 2, rfl, F, by omega, by omega, by omega, fun r1 M1 r10 r11 f1 => ?_⟩
  simp [ir_law_bowl_2, w_av, hd, sz_eq]
  refine ⟨n, a + 1, 5, rfl, f1.feed.app _, by omega, by decide, by decide, fun r2 M2 r20 r21 f2 => ?_⟩
  have g2 := Fx.top f1.feed f2
  have f02 : Fx n (a + 2) M M2 := f1.trans f2.tail
  simp [g2]
  have tab : ∃ ta tb tc td : Int, atD [.tup [.int 1, .int 0, .int 0, .int 1], .tup [.int 0, .int (-1), .int 1, .int 0], .tup [.int 2, .int 1, .int 1, .int 1], .tup [.int 1, .int 1, .int (-1), .int 0], .tup [.int 3, .int (-1), .int 1, .int 2]] r2 = some (.tup [.int ta, .int tb, .int tc, .int td]) ∧
      ta.natAbs ≤ 3 ∧ tb.natAbs ≤ 3 ∧ tc.natAbs ≤ 3 ∧ td.natAbs ≤ 3 := by
    rcases (by omega : r2 = 0 ∨ r2 = 1 ∨ r2 = 2 ∨ r2 = 3 ∨ r2 = 4) with rfl | rfl | rfl | rfl | rfl <;> exact ⟨_, _, _, _, by simp; exact ⟨rfl, rfl, rfl, rfl⟩, by decide, by decide, by decide, by decide⟩
  obtain ⟨ta, tb, tc, td, et, b1, b2, b3, b4⟩ := tab
  rw [et]
  simp [ir_law_bowl_3, w_av, hd]
  refine ⟨n, a + 2, 3 + r1, rfl, f02.feed, by omega, by omega, by omega, fun r3 M3 r30 r31 f3 => ?_⟩
  simp [ir_law_bowl_4, w_av, hd]
  refine ⟨n, a + 3, 9, rfl, f3.feed, by omega, by decide, by decide, fun r4 M4 r40 r41 f4 => ?_⟩
  simp
  refine ⟨n, a + 4, 9, rfl, f4.feed, by omega, by decide, by decide, fun r5 M5 r50 r51 f5 => ?_⟩
  simp [sz_eq, ir_law_bowl_5, w_ret]
  refine w_compG ?_
  have cnt : (0 - r3 + (3 + r1) - (0 - r3)).toNat = (3 + r1).toNat := by congr 1; omega
  simp
  refine ⟨by omega, rest_pure (xs := rngD (-r3) (3 + r1).toNat) (fun d => match d with | .int i => some (pt2 (i, i * i)) | _ => none) ?_ (by rw [rngD_len, sz_eq]; omega) ?_ ?_⟩
  · have : (-r3 + (3 + r1) + r3).toNat = (3 + r1).toNat := by congr 1; omega
    simp [this]
  · intro x hx R hR
    rw [rngD_map] at hx
    obtain ⟨i, hi, rfl⟩ := List.mem_map.mp hx
    have hi' : i < (3 + r1).toNat := List.mem_range.mp hi
    have l1 : lg (-r3 + (i : Int)) ≤ 20 := lg_of (by omega)
    simp [sz_eq]
    exact ⟨by omega, hR⟩
  · rw [rng_pts (f := fun i => (i, i * i))]
    generalize hls : (List.range (3 + r1).toNat).map (fun (i : Nat) => ((-r3 + (i : Int)), (-r3 + (i : Int)) * (-r3 + (i : Int)))) = ls
    have llen : ls.length = (3 + r1).toNat := by rw [← hls]; simp
    have lsm : ∀ p ∈ ls, p.1.natAbs ≤ 40 ∧ p.2.natAbs ≤ 1600 := by
      intro p hp
      rw [← hls] at hp
      obtain ⟨i, hi, rfl⟩ := List.mem_map.mp hp
      have hi' : i < (3 + r1).toNat := List.mem_range.mp hi
      have : (-r3 + (i : Int)).natAbs ≤ 40 := by omega
      exact ⟨this, abs_mul_le this this⟩
    simp [hl]
    have lgs : ∀ {x : Int}, x.natAbs ≤ 3 → lg x < 2000 := fun h => Nat.lt_of_le_of_lt (lg_of (k := 2) (by omega)) (by decide)
    refine ⟨20, _, ls, ta, tb, tc, td, (r4 - 4, r5 - 4), rfl, .inl ⟨_, rfl, by simp⟩, by omega, by decide, fun p hp => ?_, lgs b1, lgs b2, lgs b3, lgs b4, ?_⟩
    · obtain ⟨h1, h2⟩ := lsm p hp
      exact ⟨by omega, by omega⟩
    · have fin : Fx n (a + 100) M (M5 ++ [ls.map pt2] ++ [(ls.map (ledp ta tb tc td (r4 - 4, r5 - 4))).map pt2]) := ((f02.trans (f3.trans (f4.trans f5))).mono (by omega)).app _ |>.app _
      refine q _ _ _ fin ?_ ga_len ?_ (by rw [List.length_map, llen]; omega) ?_
      · have := (f02.trans (f3.trans (f4.trans f5))).len
        simp; omega
      · intro z
        have := congrArg List.length z
        simp [llen] at this
        omega
      · intro p hp
        obtain ⟨p', hp', rfl⟩ := List.mem_map.mp hp
        obtain ⟨h1, h2⟩ := lsm p' hp'
        have e1 := abs_mul_le b1 h1
        have e2 := abs_mul_le b2 h2
        have e3 := abs_mul_le b3 h1
        have e4 := abs_mul_le b4 h2
        unfold ledp
        exact ⟨by simp only; omega, by simp only; omega⟩
theorem law_line_ok (G : Gam) (hd : G "_law_draw" = S_draw) : ∀ ds M Q, S_line ds M Q → wpS G ir_law_line (bodyE Q) (startD (6 - ds.length) ds) M := by
  rintro ds M Q ⟨n, a, rfl, F, ha, q⟩
  simp [ir_law_line_1, w_at, startD, hd]
  refine ⟨n, a, 9, rfl, F, by omega, by decide, by decide, fun r1 M1 r10 r11 f1 => ?_⟩
  simp
  refine ⟨n, a + 1, 9, rfl, f1.feed, by omega, by decide, by decide, fun r2 M2 r20 r21 f2 => ?_⟩
  simp [sz_eq, ir_law_line_2, w_at, hd]
  refine ⟨n, a + 2, 5, rfl, f2.feed, by omega, by decide, by decide, fun r3 M3 r30 r31 f3 => ?_⟩
  simp
  refine ⟨n, a + 3, 5, rfl, f3.feed, by omega, by decide, by decide, fun r4 M4 r40 r41 f4 => ?_⟩
  simp [sz_eq, ir_law_line_3, w_ret]
  refine w_compG ?_
  simp [hd]
  refine ⟨n, a + 4, 5, rfl, f4.feed, by omega, by decide, by decide, fun r5 M5 r50 r51 f5 => ?_⟩
  simp
  refine ⟨by omega, rest_pure (xs := rngD 0 (1 + r5).toNat) (fun d => match d with | .int i => some (pt2 (r1 - 4 + i * (r3 - 2), r2 - 4 + i * (r4 - 2))) | _ => none) (by simp) (by rw [rngD_len, sz_eq]; omega) ?_ ?_⟩
  · intro x hx R hR
    rw [rngD_map] at hx
    obtain ⟨i, hi, rfl⟩ := List.mem_map.mp hx
    have hi' : i < (1 + r5).toNat := List.mem_range.mp hi
    have l1 : lg ((0 : Int) + (i : Int)) ≤ 20 := lg_of (by omega)
    have l2 : lg (r3 - 2) ≤ 20 := lg_of (by omega)
    have l3 : lg (r4 - 2) ≤ 20 := lg_of (by omega)
    rw [Int.zero_add] at l1 hR
    simp [sz_eq]
    exact ⟨by omega, by omega, hR⟩
  · rw [rng_pts (f := fun i => (r1 - 4 + i * (r3 - 2), r2 - 4 + i * (r4 - 2)))]
    refine q _ _ _ (((f1.trans (f2.trans (f3.trans (f4.trans f5)))).mono (by omega)).app _) (f1.trans (f2.trans (f3.trans (f4.trans f5)))).len ga_len ?_ (by simp; omega) ?_
    · intro z
      have := congrArg List.length z
      simp at this
      omega
    · intro p hp
      obtain ⟨i, hi, rfl⟩ := List.mem_map.mp hp
      have hi' : i < (1 + r5).toNat := List.mem_range.mp hi
      have c1 : (0 + (i : Int)).natAbs ≤ 5 := by omega
      have e1 := abs_mul_le c1 (show (r3 - 2).natAbs ≤ 5 by omega)
      have e2 := abs_mul_le c1 (show (r4 - 2).natAbs ≤ 5 by omega)
      exact ⟨by simp only; omega, by simp only; omega⟩
end DL

set_option Elab.async false
set_option linter.all false
set_option maxRecDepth 100000
set_option maxHeartbeats 4000000
set_option exponentiation.threshold 3000
namespace DL
open PySem L2 Hull
@[simp] theorem mfD_popI {n : Nat} {i : Int} {M : Mem} {Q : Kn} : mfD .pop (.lst n) [.int i] M Q = onV M[n]? fun ys => 0 ≤ i ∧ i < ys.length ∧ ys.length < 2 ^ 62 ∧ onV ys[i.toNat]? fun y => Q y (M.set n (ys.eraseIdx i.toNat)) := rfl
theorem cut_1 {xs : List D} : cutD xs (some 1) none = xs.drop 1 := by
  cases xs with
  | nil => rfl
  | cons x xs =>
    unfold cutD
    have e1 : HT.sIx (x :: xs).length 0 (some 1) = 1 := by
      unfold HT.sIx
      simp
    have e2 : HT.sIx (x :: xs).length (x :: xs).length none = (x :: xs).length := rfl
    rw [e1, e2]
    simp
def EvW (n a : Nat) (M : Mem) (most many : Int) (m : Nat) (ρ : En) (M' : Mem) : Prop := ∃ ws : List (Int × Int), ρ = [some (.lst n), some (.int most), some (.lst M.length), some (.int many), none, none, none, none, none] ∧
  Fx n (a + 1 + (12 - ws.length)) M M' ∧ M'[M.length]? = some (ws.map pt2) ∧ m = ws.length ∧ 2 ≤ ws.length ∧ ws.length ≤ 12 ∧ ∀ p ∈ ws, p.1.natAbs ≤ 3 ∧ p.2.natAbs ≤ 3
def EvI (n l0 : Nat) (most many : Int) (M4 : Mem) (acc : List D) (c : Nat) (ρ : En) (M' : Mem) : Prop := ∃ (F : List (Int × Int)) (sg w s : Option D), ρ = [some (.lst n), some (.int most), some (.lst l0), some (.int many), some (.lst M4.length), some (.lst (M4.length + 1)), sg, w, s] ∧
  M' = M4 ++ [acc, F.map pt2] ∧ F.length = c + 1 ∧ ∀ p ∈ F, p.1.natAbs ≤ 9 * c ∧ p.2.natAbs ≤ 9 * c
def EvJ (n l0 : Nat) (most many : Int) (M4 : Mem) (acc : List D) (c : Nat) (sg : Int) (j : Nat) (ρ : En) (M' : Mem) : Prop := ∃ (F : List (Int × Int)) (w s : Option D), ρ = [some (.lst n), some (.int most), some (.lst l0), some (.int many), some (.lst M4.length), some (.lst (M4.length + 1)), some (.int sg), w, s] ∧
  M' = M4 ++ [acc, F.map pt2] ∧ F.length = c + j + 1 ∧ ∀ p ∈ F, p.1.natAbs ≤ 9 * (c + j) ∧ p.2.natAbs ≤ 9 * (c + j)
theorem map_erase {f : Int × Int → D} : ∀ {ws : List (Int × Int)} {i : Nat}, (ws.map f).eraseIdx i = (ws.eraseIdx i).map f
  | [], _ => rfl
  | _ :: _, 0 => rfl
  | w :: ws, i + 1 => by
    have := map_erase (f := f) (ws := ws) (i := i)
    simp only [List.map_cons, List.eraseIdx_cons_succ, this]
theorem zipw_at {ws : List (Int × Int)} {zs : List Int} {j : Nat} {x : D} (h : (List.zipWith pr (ws.map pt2) (zs.map D.int))[j]? = some x) : ∃ p z, p ∈ ws ∧ z ∈ zs ∧ x = .tup [pt2 p, .int z] := by
  rw [List.getElem?_zipWith] at h
  simp only [List.getElem?_map] at h
  cases hp : ws[j]? with
  | none => rw [hp] at h; simp at h
  | some p =>
    cases hz : zs[j]? with
    | none => rw [hp, hz] at h; simp at h
    | some z =>
      rw [hp, hz] at h
      simp at h
      exact ⟨p, z, List.mem_of_getElem? hp, List.mem_of_getElem? hz, h.symm⟩
theorem ints_of : ∀ {acc : List D} {S : Int → Prop}, (∀ y ∈ acc, ∃ i, y = .int i ∧ S i) → ∃ zs : List Int, acc = zs.map D.int ∧ ∀ z ∈ zs, S z
  | [], _, _ => ⟨[], rfl, fun _ h => by cases h⟩
  | y :: acc, S, h => by
    obtain ⟨zs, e, hs⟩ := ints_of (S := S) (acc := acc) fun z hz => h z (by simp [hz])
    obtain ⟨i, rfl, hi⟩ := h y (by simp)
    exact ⟨i :: zs, by rw [e]; rfl, fun z hz => by rcases List.mem_cons.mp hz with rfl | hz; exact hi; exact hs z hz⟩
theorem last_of {F : List (Int × Int)} {c : Nat} (h : F.length = c + 1) : ∃ F0 f, F = F0 ++ [f] := by
  rcases List.eq_nil_or_concat F with rfl | ⟨F0, f, rfl⟩
  · simp at h
  · exact ⟨F0, f, by simp⟩
theorem law_even_ok (G : Gam) (hd : G "_law_draw" = S_draw) : ∀ ds M Q, S_even ds M Q → wpS G ir_law_even (bodyE Q) (startD (9 - ds.length) ds) M := by
  rintro ds M Q ⟨n, a, most, rfl, F, ha, m4, m24, q⟩
  simp [ir_law_even_1, w_av, startD, sz_eq]
  generalize hW : [D.tup [.int 1, .int 0], .tup [.int 3, .int 1], .tup [.int 2, .int 1], .tup [.int 1, .int 1], .tup [.int 1, .int 2], .tup [.int 1, .int 3], .tup [.int 0, .int 1], .tup [.int (-1), .int 3], .tup [.int (-1), .int 2], .tup [.int (-1), .int 1], .tup [.int (-2), .int 1], .tup [.int (-3), .int 1]] = W
  have hW' : ∃ ws : List (Int × Int), W = ws.map pt2 ∧ ws.length = 12 ∧ ∀ p ∈ ws, p.1.natAbs ≤ 3 ∧ p.2.natAbs ≤ 3 := by
    refine ⟨[(1, 0), (3, 1), (2, 1), (1, 1), (1, 2), (1, 3), (0, 1), (-1, 3), (-1, 2), (-1, 1), (-2, 1), (-3, 1)], hW.symm, rfl, by decide⟩
  obtain ⟨ws, rfl, w12, wsm⟩ := hW'
  clear hW
  have hln := F.ln
  have d2 : (most : Int).fdiv 2 = ((most / 2 : Nat) : Int) := nat_fdiv most 2
  have l2 : lg 2 = 1 := by decide
  simp [ir_law_even_2, w_av, hd, d2, l2]
  refine ⟨n, a, ((most / 2 : Nat) : Int) - 1, rfl, F.app _, by omega, by omega, by omega, fun r1 M1 r10 r11 f1 => ?_⟩
  have g1 := Fx.top F f1
  generalize hmany : (2 : Int) + r1 = many
  have hmany2 : 2 ≤ many ∧ many ≤ most / 2 := by omega
  simp [ir_law_even_3, hmany]
  refine w_whl (EvW n a M most many) (m := 12) ⟨ws, rfl, f1.tail.mono (by omega), g1, w12.symm, by omega, by omega, wsm⟩ ?_
  clear wsm w12 g1 f1 ws
  rintro m ρ M' ⟨ws, rfl, f2, g2, rfl, w2, w12, wsm⟩
  simp [g2]
  by_cases more : many < (ws.length : Int)
  · simp [more, ir_law_even_4, w_ex, g2, hd]
    refine ⟨n, a + 1 + (12 - ws.length), ws.length, rfl, f2.feed, by omega, by omega, by omega, fun r M2 r0 r1 f3 => ?_⟩
    have g3 := f3.get g2 (by omega)
    have hr : r.toNat < ws.length := by omega
    simp [g3, r0, r1, List.getElem?_eq_getElem hr, w_skip]
    refine ⟨by omega, ws.length - 1, by omega, ws.eraseIdx r.toNat, rfl, ?_, ?_, ?_, ?_, ?_, ?_⟩
    · refine Fx.set ((f2.trans f3).mono ?_) (Nat.le_refl _) hln _
      rw [List.length_eraseIdx, if_pos hr]; omega
    · rw [gs_self g3]
      rw [map_erase]
    · rw [List.length_eraseIdx, if_pos hr]
    · rw [List.length_eraseIdx, if_pos hr]; omega
    · rw [List.length_eraseIdx, if_pos hr]; omega
    · exact fun p hp => wsm p (List.mem_of_mem_eraseIdx hp)
  · simp [more, ir_law_even_5, w_av]
    refine w_compG ?_
    simp
    refine ⟨rest_draw (xs := ws.map pt2) (n := n) (a := a + 20) 1 (fun _ y => ∃ i, y = .int i ∧ (1 ≤ i ∧ i ≤ 3)) (f2.feed.mono (by omega)) (by rw [List.length_map]; omega) (fun b M3 f3 => ?_) (fun _ _ _ _ h _ => h) ?_ ?_, _, g2⟩
    · exact f3.get g2 (by omega)
    · intro i x M3 R hx hi f3 hR
      rw [List.length_map] at hi
      rw [List.getElem?_map] at hx
      obtain ⟨p, hp, rfl⟩ := Option.map_eq_some_iff.mp hx
      simp [hd]
      refine ⟨n, a + 20 + i, 3, rfl, by simpa using f3.feed, by omega, by decide, by decide, fun r M4 r0 r1 f4 => ?_⟩
      exact hR _ _ (f4.mono (by omega)) ⟨_, rfl, by omega, by omega⟩
    · intro acc M4 hacc f4 hP
      rw [List.length_map] at hacc f4
      obtain ⟨zs, rfl, hz⟩ := ints_of (S := fun i => 1 ≤ i ∧ i ≤ 3) hP
      rw [List.length_map] at hacc
      have g4 : M4[M.length]? = some (ws.map pt2) := f4.get g2 (by omega)
      have l4 : M.length < M4.length := lt_of_get g4
      have F4 : Fx n (a + 100) M M4 := (f2.trans f4).mono (by omega)
      clear f4 f2 hP g2
      simp [ir_law_even_6, w_av, sz_eq, ir_law_even_7]
      refine w_for ?_
      simp
      refine ⟨sz (by decide), fun i => EvI n M.length most many M4 (zs.map D.int) (i * ws.length), ⟨[(0, 0)], none, none, none, rfl, by simp; rfl, by simp, by simp⟩, ?_, ?_⟩
      · rintro i x ρ M' hx ⟨Fd, sg, w, s, rfl, rfl, hF, hFs⟩
        have hsg : ∃ sgn : Int, x = .int sgn ∧ sgn.natAbs ≤ 1 ∧ i < 2 := by
          match i, hx with
          | 0, hx => simp at hx; exact ⟨1, hx.symm, by decide, by decide⟩
          | 1, hx => simp at hx; exact ⟨-1, hx.symm, by decide, by decide⟩
          | i + 2, hx => simp at hx
        obtain ⟨sgn, rfl, hs1, i2⟩ := hsg
        have small : i * ws.length ≤ 12 := by
          have : i * ws.length ≤ 1 * 12 := Nat.mul_le_mul (by omega) w12
          omega
        simp [ir_law_even_8]
        refine w_for ?_
        have it : ∀ B : List D, items (M4 ++ [zs.map D.int, B]) (.zip (.lst M.length) (.lst M4.length)) = some (List.zipWith pr (ws.map pt2) (zs.map D.int)) := fun B => items_zl (by rw [List.getElem?_append_left l4]; exact g4) (by simp)
        simp only [wpI, wpE_var, getV_s, getV_0, onV_some']
        refine ⟨⟨_, it _, EvJ n M.length most many M4 (zs.map D.int) (i * ws.length) sgn, ⟨Fd, w, s, rfl, rfl, hF, hFs⟩, ?_, ?_, ?_⟩, .inl ⟨_, _, ws.map pt2, zs.map D.int, rfl, rfl, by rw [List.getElem?_append_left l4]; exact g4, by simp⟩⟩
        · rintro j ρ M' _ ⟨Fe, w, s, rfl, rfl, _⟩; exact it _
        · rintro j x ρ M' hx ⟨Fe, w, s, rfl, rfl, hF, hFs⟩
          have hj : j < ws.length := by
            have := (List.getElem?_eq_some_iff.mp hx).1
            simp at this
            omega
          obtain ⟨p, z, hp, hzz, rfl⟩ := zipw_at hx
          obtain ⟨p1, p2⟩ := wsm p hp
          obtain ⟨z1, z2⟩ := hz z hzz
          obtain ⟨F0, f, rfl⟩ := last_of hF
          obtain ⟨f1, f2⟩ := hFs f (by simp)
          have gl : atD ((F0 ++ [f]).map pt2) (-1) = some (pt2 f) := by rw [List.map_append]; exact at_last
          have e0 : (sgn * z).natAbs ≤ 1 * 3 := abs_mul_le hs1 (by omega)
          have e1 := abs_mul_le e0 p1
          have e2 := abs_mul_le e0 p2
          have lz : lg z ≤ 2 := lg_of (by omega)
          have ls : lg sgn ≤ 1 := lg_of (by omega)
          have lsz : lg (sgn * z) ≤ 2 := lg_of (by omega)
          have lp1 : lg p.1 ≤ 2 := lg_of (by omega)
          have lp2 : lg p.2 ≤ 2 := lg_of (by omega)
          simp at gl
          simp [ir_law_even_9, w_ex, gl, sz_eq, w_skip]
          simp at hF
          refine ⟨by omega, by omega, by omega, by omega, by omega, (F0 ++ [f]) ++ [(f.1 + sgn * z * p.1, f.2 + sgn * z * p.2)], _, _, rfl, ?_, by simp; omega, fun x hx => ?_⟩
          · simp [pt2]
          · rcases List.mem_append.mp hx with hx | hx
            · have := hFs x hx
              omega
            · rw [List.mem_singleton.mp hx]
              simp only
              omega
        · rintro ρ M' ⟨Fe, w, s, rfl, rfl, hF, hFs⟩
          have lz : (List.zipWith pr (ws.map pt2) (zs.map D.int)).length = ws.length := by simp [hacc]
          rw [lz] at hF hFs
          rw [w_skip]
          have e : (i + 1) * ws.length = i * ws.length + ws.length := Nat.succ_mul _ _
          exact ⟨Fe, _, _, _, rfl, rfl, by rw [e]; exact hF, by rw [e]; exact hFs⟩
      · rintro ρ M' ⟨Fd, sg, w, s, rfl, rfl, hF, hFs⟩
        simp [ir_law_even_10, w_ret, cut_1]
        have e := q (Fd.drop 1) (M4.length + 2) (M4 ++ [zs.map D.int, Fd.map pt2, (Fd.map pt2).drop 1]) ?_ ?_ ?_ ?_ ?_ ?_
        · simpa using e
        · have := ((F4.app (zs.map D.int)).app (Fd.map pt2)).app ((Fd.map pt2).drop 1)
          simpa using this
        · omega
        · simp
        · intro z
          have := congrArg List.length z
          simp at this
          omega
        · simp; omega
        · intro p hp
          have := hFs p (List.mem_of_mem_drop hp)
          exact ⟨by omega, by omega⟩
end DL

set_option Elab.async false
set_option linter.all false
set_option maxRecDepth 100000
set_option maxHeartbeats 4000000
set_option exponentiation.threshold 3000
namespace DL
open PySem L2 Hull
theorem cut_to {xs : List D} {j : Int} (h0 : 0 ≤ j) (h1 : j ≤ xs.length) : cutD xs none (some j) = xs.take j.toNat := by
  unfold cutD
  have e1 : HT.sIx xs.length 0 none = 0 := rfl
  have e2 : HT.sIx xs.length xs.length (some j) = j.toNat := by
    unfold HT.sIx
    simp
    split <;> omega
  rw [e1, e2]
  simp
theorem DrawnC.sub {n a most k : Nat} {M M1 : Mem} {Q : Kn} (q : DrawnC n a most M Q) (f1 : Fx n (a + 1) M M1) (hk : k ≤ most) : Drawn n (a + 1) k M1 Q :=
  fun ls l M' f hl hg hne hlen hsm => q ls l M' ((f1.trans f).mono (by omega)) (Nat.le_trans f1.len hl) hg hne (Nat.le_trans hlen hk) hsm
theorem law_cloud_ok (G : Gam) (hd : G "_law_draw" = S_draw) (hf : G "_law_far" = S_far) (hb : G "_law_bowl" = S_bowl) (he : G "_law_even" = S_even) (hl : G "_law_line" = S_line) : ∀ ds M Q, S_cloud ds M Q → wpS G ir_law_cloud (bodyE Q) (startD (6 - ds.length) ds) M := by
  rintro ds M Q ⟨n, a, most, rfl, F, ha, m6, m40, q⟩
  simp [ir_law_cloud_1, w_av, startD, hd]
  refine ⟨n, a, 10, rfl, F, by omega, by decide, by decide, fun way M1 w0 w1 f1 => ?_⟩
  have min24 : (if (24 : Int) < (most : Int) then (24 : Int) else most) = ((min most 24 : Nat) : Int) := by split <;> omega
  simp [ir_law_cloud_2, w_ite, w_skip]
  by_cases z0 : way = 0
  · simp [z0, ir_law_cloud_3, w_ret, hl]
    exact ⟨n, a + 1, rfl, f1.feed, by omega, q.sub f1 (by omega)⟩
  simp [z0, ir_law_cloud_4, w_ite, w_skip]
  by_cases z1 : way = 1
  · simp [z1, ir_law_cloud_5, w_ret, hb]
    rw [min24]
    exact ⟨n, a + 1, min most 24, rfl, f1.feed, by omega, by omega, by omega, q.sub f1 (by omega)⟩
  simp [z1, ir_law_cloud_6, w_ite, w_skip]
  by_cases z2 : way = 2
  · simp [z2, ir_law_cloud_7, w_ret, he]
    rw [min24]
    exact ⟨n, a + 1, min most 24, rfl, f1.feed, by omega, by omega, by omega, q.sub f1 (by omega)⟩
  simp [z2, ir_law_cloud_8, w_ite, w_skip]
  by_cases z3 : way = 3
  · simp [z3, ir_law_cloud_9, w_ret, hd]
    refine w_compG ?_
    simp [hd]
    refine ⟨n, a + 1, 6, rfl, f1.feed, by omega, by decide, by decide, fun r M2 r0 r1 f2 => ?_⟩
    simp
    refine ⟨by omega, rest_draw (n := n) (a := a + 2) (xs := rngD 0 (1 + r).toNat) 6 (fun _ y => ∃ p, y = pt2 p ∧ Sm 44 p) f2.feed (by rw [rngD_len]; omega) (fun _ _ _ => by simp) (fun _ _ _ _ h _ => h) ?_ ?_⟩
    · intro i x M3 R hx hi f3 hR
      rw [rngD_len] at hi
      simp [hf]
      refine ⟨n, a + 2 + 6 * i, rfl, f3.feed, by omega, fun r1 M4 h1 f4 => ?_⟩
      simp
      refine ⟨n, a + 2 + 6 * i + 3, rfl, f4.feed, by omega, fun r2 M5 h2 f5 => ?_⟩
      simp [sz_eq]
      exact hR _ _ ((f4.trans f5).mono (by omega)) ⟨(r1, r2), rfl, up_lt h1 (by omega), up_lt h2 (by omega)⟩
    · intro acc M3 hacc f3 hP
      rw [rngD_len] at hacc f3
      obtain ⟨ls, rfl, hs⟩ := all_pts (S := Sm 44) hP
      rw [List.length_map] at hacc
      refine q ls _ _ (((f1.trans (f2.trans f3)).mono (by omega)).app _) (f1.trans (f2.trans f3)).len ga_len ?_ (by omega) hs
      intro z; subst z; simp at hacc; omega
  simp [z3, ir_law_cloud_10, w_ite, w_skip]
  by_cases z4 : way = 4
  · simp [z4, ir_law_cloud_11, w_av, hd, sz_eq]
    refine ⟨n, a + 1, 3, rfl, f1.feed.app _, by omega, by decide, by decide, fun r M2 r0 r1 f2 => ?_⟩
    have g2 := Fx.top f1.feed f2
    have f02 := f1.trans f2.tail
    simp [g2]
    have long : ∃ lo : Int, atD [.int 7, .int 1000, .int 100000000000] r = some (.int lo) ∧ 7 ≤ lo ∧ lo ≤ 100000000000 := by
      rcases (by omega : r = 0 ∨ r = 1 ∨ r = 2) with rfl | rfl | rfl <;> exact ⟨_, by simp; rfl, by decide, by decide⟩
    obtain ⟨lo, el, lo1, lo2⟩ := long
    rw [el]
    have l2 : lg 2 = 1 := by decide
    have ll : lg lo ≤ 40 := lg_of (by omega)
    simp [ir_law_cloud_12, w_ret, hd, sz_eq, l2]
    refine ⟨by omega, n, a + 2, 2, rfl, f02.feed, by omega, by decide, by decide, fun r2 M3 r20 r21 f3 => ?_⟩
    simp [sz_eq]
    refine ⟨n, a + 3, 3, rfl, f3.feed.app _, by omega, by decide, by decide, fun r3 M4 r30 r31 f4 => ?_⟩
    have g4 := Fx.top f3.feed f4
    have f04 := f02.trans (f3.trans f4.tail)
    simp [g4]
    rw [cut_to (by omega) (by simp; omega)]
    refine q ([(0, 0), (lo, 1), (lo + 1, 1), (2 * lo + 1, 2 + r2)].take (2 + r3).toNat) _ _ ((f04.mono (by omega)).app _) f04.len ?_ ?_ (by simp; omega) ?_
    · rw [ga_len, List.map_take]; rfl
    · intro z
      have := congrArg List.length z
      simp at this
      omega
    · intro p hp
      have := List.mem_of_mem_take hp
      simp only [List.mem_cons, List.not_mem_nil, or_false] at this
      rcases this with rfl | rfl | rfl | rfl <;> exact ⟨by simp only; omega, by simp only; omega⟩
  simp [z4, ir_law_cloud_13, w_av, hd, sz_eq]
  refine ⟨n, a + 1, 5, rfl, f1.feed.app _, by omega, by decide, by decide, fun r M2 r0 r1 f2 => ?_⟩
  have g2 := Fx.top f1.feed f2
  have f02 := f1.trans f2.tail
  simp [g2]
  have wide : ∃ wi : Int, atD [.int 2, .int 3, .int 5, .int 9, .int 20] r = some (.int wi) ∧ 2 ≤ wi ∧ wi ≤ 20 := by
    rcases (by omega : r = 0 ∨ r = 1 ∨ r = 2 ∨ r = 3 ∨ r = 4) with rfl | rfl | rfl | rfl | rfl <;> exact ⟨_, by simp; rfl, by decide, by decide⟩
  obtain ⟨wi, ew, wi1, wi2⟩ := wide
  rw [ew]
  simp [ir_law_cloud_14, w_ret]
  refine w_compG ?_
  simp [hd]
  refine ⟨n, a + 2, most, rfl, f02.feed, by omega, by omega, by omega, fun c M3 c0 c1 f3 => ?_⟩
  simp
  refine ⟨by omega, rest_draw (n := n) (a := a + 3) (xs := rngD 0 (1 + c).toNat) 2 (fun _ y => ∃ p, y = pt2 p ∧ Sm 44 p) f3.feed (by rw [rngD_len]; omega) (fun _ _ _ => by simp) (fun _ _ _ _ h _ => h) ?_ ?_⟩
  · intro i x M4 R hx hi f4 hR
    rw [rngD_len] at hi
    simp [hd]
    refine ⟨n, a + 3 + 2 * i, wi, rfl, f4.feed, by omega, by omega, by omega, fun r1 M5 h1 h2 f5 => ?_⟩
    simp
    refine ⟨n, a + 3 + 2 * i + 1, wi, rfl, f5.feed, by omega, by omega, by omega, fun r2 M6 h3 h4 f6 => ?_⟩
    simp [sz_eq]
    exact hR _ _ ((f5.trans f6).mono (by omega)) ⟨(r1, r2), rfl, by simp only; omega, by simp only; omega⟩
  · intro acc M4 hacc f4 hP
    rw [rngD_len] at hacc f4
    obtain ⟨ls, rfl, hs⟩ := all_pts (S := Sm 44) hP
    rw [List.length_map] at hacc
    refine q ls _ _ (((f02.trans (f3.trans f4)).mono (by omega)).app _) (f02.trans (f3.trans f4)).len ga_len ?_ (by omega) hs
    intro z; subst z; simp at hacc; omega
end DL

set_option Elab.async false
set_option linter.all false
set_option maxRecDepth 100000
set_option maxHeartbeats 4000000
set_option exponentiation.threshold 3000
namespace DL
open PySem L2 Hull
theorem rim_ne {S R : List (Int × Int)} (r : Rim S R) : R ≠ [] := by
  obtain ⟨a, l, rfl, _⟩ := r
  simp
theorem rim_len {S R : List (Int × Int)} (r : Rim S R) : R.length ≤ S.length := by
  have sub := r.sub
  obtain ⟨a, l, rfl, ha, hm, hc⟩ := r
  refine nodup_len ?_ sub
  rcases hc with ⟨rfl, _⟩ | ⟨_, nd, _⟩
  · simp
  · exact nd
theorem rim_sm {S R : List (Int × Int)} {k : Nat} (r : Rim S R) (h : ∀ p ∈ S, Sm k p) : ∀ p ∈ R, Sm k p := fun p hp => h p (r.sub p hp)
theorem Fx.exx {n a : Nat} {M M' M2 : Mem} (f : Fx n a M M') (e : Ex M' M2) : Fx n a M M2 := f.trans (e.fx f.feed)
theorem Seq2.fx {n a : Nat} {M M' : Mem} {x : D} {ls : List (Int × Int)} (h : Seq2 M x ls) (f : Fx n a M M') (hn : x ≠ .lst n) : Seq2 M' x ls := by
  rcases h with ⟨m, rfl, h⟩ | rfl
  · exact .inl ⟨m, rfl, f.get h fun z => hn (by rw [z])⟩
  · exact .inr rfl
-- slots ['one', 'other']
-- slots ['_law_points', '_law_table', '_law_by', '_law_others', '_law_some', '_law_x', '_law_y']
-- slots ['_law_feed_here', '_law_most', '_law_way', '_law_cloud_here', '_law_one', '_law_k', '_law_a', '_law_b', '_law_c', '_law_d', '_law_by', '_law_off', '_law_points', '_law_rest', '_law_x', '_law_y']
-- slots ['_law_told', '_law_due', '_law_point', '_law_other', '_law_number']
end DL

set_option Elab.async false
set_option linter.all false
set_option maxRecDepth 100000
set_option maxHeartbeats 4000000
set_option exponentiation.threshold 3000
namespace DL
open PySem L2 Hull
end DL

set_option Elab.async false
set_option linter.all false
set_option maxRecDepth 100000
set_option maxHeartbeats 4000000
namespace DL
open PySem L2 Hull
theorem len_trn : ∀ ds M Q, S_trn ds M Q → ds.length = 3 := fun _ _ _ ⟨_, _, _, _, e, _⟩ => by rw [e]; rfl
theorem len_aprt : ∀ ds M Q, S_aprt ds M Q → ds.length = 2 := fun _ _ _ ⟨_, _, _, e, _⟩ => by rw [e]; rfl
theorem len_rim : ∀ ds M Q, S_rim ds M Q → ds.length = 1 := fun _ _ _ ⟨_, _, _, e, _⟩ => by rw [e]; rfl
theorem len_far : ∀ ds M Q, S_far ds M Q → ds.length = 1 := fun _ _ _ ⟨_, _, e, _⟩ => by rw [e]; rfl
theorem len_led : ∀ ds M Q, S_led ds M Q → ds.length = 3 := fun _ _ _ ⟨_, _, _, _, _, _, _, _, e, _⟩ => by rw [e]; rfl
theorem len_bowl : ∀ ds M Q, S_bowl ds M Q → ds.length = 2 := fun _ _ _ ⟨_, _, _, e, _⟩ => by rw [e]; rfl
theorem len_even : ∀ ds M Q, S_even ds M Q → ds.length = 2 := fun _ _ _ ⟨_, _, _, e, _⟩ => by rw [e]; rfl
theorem len_line : ∀ ds M Q, S_line ds M Q → ds.length = 1 := fun _ _ _ ⟨_, _, e, _⟩ => by rw [e]; rfl
theorem len_cloud : ∀ ds M Q, S_cloud ds M Q → ds.length = 2 := fun _ _ _ ⟨_, _, _, e, _⟩ => by rw [e]; rfl
end DL

set_option Elab.async false
set_option linter.all false
set_option maxRecDepth 100000
set_option maxHeartbeats 4000000
set_option exponentiation.threshold 3000
namespace DL
open PySem L2 Hull
/-- any rim of a drawn cloud -/
def S_rimF : DSpec := fun ds M Q => ∃ n a most : Nat, ds = [.lst n, .int most, .bl false] ∧ Feed n a M ∧ a < 2 ^ 57 ∧ 6 ≤ most ∧ most ≤ 40 ∧
  ∀ S R M', Fx n (a + 200) M M' → Rim S R → S.length ≤ most → (∀ p ∈ S, Sm 44 p) → Q (.tup (R.map pt2)) M'
-- slots ['way', 'corner']
-- slots ['rim', 'way', 'corner']
-- slots ['rim', 'way', 'most', 'corner', 'place']
def ir_law_rim_4 : IS :=
  .seq (.ret (.call "_law_wrapped" (.cons (.var 3) .nil))) .skip
def ir_law_rim_3 : IS :=
  .seq (.asg (.v 3) (.comp (.tup (.cons (.bin .FloorDiv (.var 4) (.int 8)) (.cons (.bin .FloorDiv (.var 5) (.int 8)) .nil))) [4, 5] [4, 5] (.cons (.var 3) .nil) .nil)) .skip
def ir_law_rim_2 : IS :=
  .seq (.ite (.and (.var 2) (.one (.cmp .Gt (.blt .max (.cons (.comp (.blt .max (.cons (.blt .abs (.cons (.var 4) .nil)) (.cons (.blt .abs (.cons (.var 5) .nil)) .nil))) [4, 5] [4, 5] (.cons (.var 3) .nil) .nil) .nil)) (.bin .Mult (.bin .Pow (.int 10) (.int 11)) (.int 2))))) ir_law_rim_3 .skip) ir_law_rim_4
def ir_law_rim_1 : IS :=
  .seq (.asg (.v 3) (.call "_law_cloud" (.cons (.var 0) (.cons (.var 1) .nil)))) ir_law_rim_2
abbrev ir_law_rim : IS := ir_law_rim_1
-- slots ['_law_feed_here', '_law_most', '_law_is_small', '_law_points', '_law_x', '_law_y']
-- slots ['_law_feed_here', '_law_rim_here', '_law_way_here', '_law_a', '_law_b', '_law_one', '_law_two', '_law_some', '_law_size']
-- slots ['_law_rim_here', '_law_way_here', '_law_found', '_law_k', '_law_x', '_law_y', '_law_one']
end DL

set_option Elab.async false
set_option linter.all false
set_option maxRecDepth 100000
set_option maxHeartbeats 4000000
set_option exponentiation.threshold 3000
namespace DL
open PySem L2 Hull
theorem law_rimF_ok (G : Gam) (hc : G "_law_cloud" = S_cloud) (hw : G "_law_wrapped" = S_rim) : ∀ ds M Q, S_rimF ds M Q → wpS G ir_law_rim (bodyE Q) (startD (6 - ds.length) ds) M := by
  rintro ds M Q ⟨n, a, most, rfl, F, ha, m6, m40, q⟩
  simp [ir_law_rim_1, w_av, startD, hc]
  refine ⟨n, a, most, rfl, F, by omega, m6, m40, fun S l M2 f2 hl gl hne hlen sm => ?_⟩
  simp [ir_law_rim_2, w_ite, w_skip, ir_law_rim_4, w_ret, hw]
  exact ⟨44, _, S, rfl, .inl ⟨l, rfl, gl⟩, by decide, hne, .inl (by omega), sm, fun R M3 e3 r => q S R M3 (f2.exx e3) r hlen sm⟩
end DL

set_option Elab.async false
set_option linter.all false
set_option maxRecDepth 100000
set_option maxHeartbeats 4000000
set_option exponentiation.threshold 3000
namespace DL
open PySem L2 Hull PyProof PyProof.Rows
def sidesL (R : List (Int × Int)) : List ((Int × Int) × (Int × Int)) := if R.length = 1 then [] else (List.range R.length).map fun k => (R.getD k (0, 0), R.getD ((k + 1) % R.length) (0, 0))
def pr2 (z : (Int × Int) × (Int × Int)) : D := .tup [pt2 z.1, pt2 z.2]
def S_sides : DSpec := fun ds M Q => ∃ (R : List (Int × Int)), ds = [.tup (R.map pt2)] ∧ R ≠ [] ∧ R.length < 1000 ∧ Q (.lst M.length) (M ++ [(sidesL R).map pr2])
theorem sidesL_len (R : List (Int × Int)) : (sidesL R).length ≤ R.length := by
  unfold sidesL
  split <;> simp
theorem ed_at {r : Int × Int → Int × Int → Prop} : ∀ {l : List (Int × Int)} {i : Nat} {a b : Int × Int}, Ed r l → l[i]? = some a → l[i + 1]? = some b → r a b
  | [], _, _, _, _, h, _ => by simp at h
  | [_], 0, _, _, _, _, h => by simp at h
  | [_], i + 1, _, _, _, h, _ => by simp at h
  | x :: y :: l, 0, a, b, e, h, h' => by
    simp at h h'
    subst h; subst h'
    exact e.1
  | x :: y :: l, i + 1, a, b, e, h, h' => ed_at (l := y :: l) (i := i) e.2 (by simpa using h) (by simpa using h')
theorem sides_nx {S R : List (Int × Int)} (r : Rim S R) : ∀ z ∈ sidesL R, z.1 ∈ R ∧ z.2 ∈ R ∧ Nx S z.1 z.2 := by
  obtain ⟨a, l, rfl, ha, hm, hc⟩ := r
  intro z hz
  unfold sidesL at hz
  split at hz
  · cases hz
  · rename_i n1
    rcases hc with ⟨rfl, _⟩ | ⟨ne, nd, ed⟩
    · exact (n1 rfl).elim
    · obtain ⟨k, hk, rfl⟩ := List.mem_map.mp hz
      have hk := List.mem_range.mp hk
      have h1 : (a :: l)[k]? = some ((a :: l).getD k (0, 0)) := by
        rw [List.getD_eq_getElem?_getD, List.getElem?_eq_getElem hk]; rfl
      have hk2 : (k + 1) % (a :: l).length < (a :: l).length := Nat.mod_lt _ (by simp)
      have h2 : (a :: l)[(k + 1) % (a :: l).length]? = some ((a :: l).getD ((k + 1) % (a :: l).length) (0, 0)) := by
        rw [List.getD_eq_getElem?_getD, List.getElem?_eq_getElem hk2]; rfl
      refine ⟨List.mem_of_getElem? h1, List.mem_of_getElem? h2, ?_⟩
      have e1 : ((a :: l) ++ [a])[k]? = some ((a :: l).getD k (0, 0)) := by rw [List.getElem?_append_left hk]; exact h1
      have e2 : ((a :: l) ++ [a])[k + 1]? = some ((a :: l).getD ((k + 1) % (a :: l).length) (0, 0)) := by
        rcases Nat.lt_or_ge (k + 1) (a :: l).length with h | h
        · rw [List.getElem?_append_left h, ← h2, Nat.mod_eq_of_lt h]
        · have e : k + 1 = (a :: l).length := by omega
          rw [e, Nat.mod_self]
          simp
      exact ed_at ed e1 e2
def ir_sides_3 : IS :=
  .seq (.ret (.comp (.tup (.cons (.ix (.var 0) (.var 1)) (.cons (.ix (.var 0) (.bin .Mod (.bin .Add (.var 1) (.int 1)) (.blt .len (.cons (.var 0) .nil)))) .nil))) [1] [1] (.rng1 (.blt .len (.cons (.var 0) .nil))) .nil)) .skip
def ir_sides_2 : IS :=
  .seq (.ret (.lst .nil)) .skip
def ir_sides_1 : IS :=
  .seq (.ite (.cmp .Eq (.blt .len (.cons (.var 0) .nil)) (.int 1)) ir_sides_2 .skip) ir_sides_3
abbrev ir_sides : IS := ir_sides_1
-- slots ['rim', 'k']
-- slots ['rim', 'one', 'two']
theorem sides_ok (G : Gam) : ∀ ds M Q, S_sides ds M Q → wpS G ir_sides (bodyE Q) (startD (2 - ds.length) ds) M := by
  rintro ds M Q ⟨R, rfl, ne, few, q⟩
  have R0 := List.length_pos_iff.mpr ne
  simp [ir_sides_1, w_ite, w_skip, startD]
  by_cases one : R.length = 1
  · simp [one, ir_sides_2, w_ret, sz_eq]
    simpa [sidesL, one] using q
  · have one' : ¬ ((R.length : Int) = 1) := by omega
    simp [one', ir_sides_3, w_ret]
    refine w_compG ?_
    simp
    refine ⟨by omega, rest_pure (xs := rngD 0 R.length) (fun d => match d with | .int k => some (pr2 (R.getD k.toNat (0, 0), R.getD ((k + 1) % R.length).toNat (0, 0))) | _ => none) (by simp) (by rw [rngD_len, sz_eq]; omega) ?_ ?_⟩
    · intro x hx T hT
      rw [rngD_map] at hx
      obtain ⟨i, hi, rfl⟩ := List.mem_map.mp hx
      have hi' : i < R.length := List.mem_range.mp hi
      have kf : ((i : Int) + 1).fmod R.length = ((i : Int) + 1) % R.length := Int.fmod_eq_emod_of_nonneg _ (by omega)
      have k2 := Int.emod_nonneg ((i : Int) + 1) (show (R.length : Int) ≠ 0 by omega)
      have k3 := Int.emod_lt_of_pos ((i : Int) + 1) (show (0 : Int) < R.length by omega)
      have a1 : atD (R.map pt2) (i : Int) = some (pt2 (R.getD i (0, 0))) := by
        rw [atD_nat, List.getElem?_map, List.getD_eq_getElem?_getD, List.getElem?_eq_getElem hi']; rfl
      have a2 : atD (R.map pt2) (((i : Int) + 1) % R.length) = some (pt2 (R.getD (((i : Int) + 1) % R.length).toNat (0, 0))) := by
        have hlt : (((i : Int) + 1) % R.length).toNat < R.length := by omega
        rw [atD_of k2, List.getElem?_map, List.getD_eq_getElem?_getD, List.getElem?_eq_getElem hlt]; rfl
      simp [a1, kf, a2, sz_eq, ne]
      simpa [pr2] using hT
    · have e : (rngD 0 R.length).filterMap (fun d => match d with | .int k => some (pr2 (R.getD k.toNat (0, 0), R.getD ((k + 1) % R.length).toNat (0, 0))) | _ => none) = (sidesL R).map pr2 := by
        rw [sidesL, if_neg one, rngD_map, List.filterMap_map, List.map_map]
        have go : ∀ l : List Nat, l.filterMap ((fun d => match d with | D.int k => some (pr2 (R.getD k.toNat (0, 0), R.getD ((k + 1) % R.length).toNat (0, 0))) | _ => none) ∘ fun (i : Nat) => D.int (0 + i)) = l.map (pr2 ∘ fun k => (R.getD k (0, 0), R.getD ((k + 1) % R.length) (0, 0))) := by
          intro l
          induction l with
          | nil => rfl
          | cons i l ih =>
            rw [List.filterMap_cons, List.map_cons, ← ih]
            have : (((i : Int) + 1) % R.length).toNat = (i + 1) % R.length := by
              rw [show ((i : Int) + 1) = ((i + 1 : Nat) : Int) by simp, ← Int.natCast_emod, Int.toNat_natCast]
            simp [this]
        exact go _
      rw [e]
      exact q
theorem len_sides : ∀ ds M Q, S_sides ds M Q → ds.length = 1 := fun _ _ _ ⟨_, e, _⟩ => by rw [e]; rfl
theorem len_rimF : ∀ ds M Q, S_rimF ds M Q → ds.length = 3 := fun _ _ _ ⟨_, _, _, e, _⟩ => by rw [e]; rfl
end DL

set_option Elab.async false
set_option linter.all false
set_option maxRecDepth 100000
set_option maxHeartbeats 4000000
set_option exponentiation.threshold 3000
namespace DL
open PySem L2 Hull
theorem Ex.set {M M' : Mem} {k : Nat} {x : List D} (e : Ex M M') (h : M.length ≤ k) : Ex M (M'.set k x) := by
  obtain ⟨L, rfl⟩ := e
  exact ⟨L.set (k - M.length) x, by rw [List.set_append, if_neg (by omega)]⟩
/-- where a corner stands first -/
def pos : List (Int × Int) → Int × Int → Nat → Option Nat
  | [], _, _ => none
  | p :: r, c, i => if p = c then some i else pos r c (i + 1)
def oI : Option Nat → D
  | none => .non
  | some k => .int (k : Int)
def lb (R R' : List (Int × Int)) (c : Int × Int) : D := .tup [oI (pos R c 0), oI (pos R' c 0)]
/-- a side that leads from the one alone to the other alone -/
def over (R R' : List (Int × Int)) (c d : Int × Int) : Bool := decide (c ∈ R ∧ c ∉ R' ∧ d ∈ R' ∧ d ∉ R)
-- slots ['rim', 'point', 'k', 'corner']
-- slots ['one', 'other', 'corner']
-- slots ['here', 'there']
-- slots ['one', 'other', 'told', 'found', 'k', 'here', 'there']
theorem getD_at {J : List (Int × Int)} {i : Nat} (h : i < J.length) : J[i]? = some (J.getD i (0, 0)) := by
  rw [List.getD_eq_getElem?_getD, List.getElem?_eq_getElem h]; rfl
end DL

set_option Elab.async false
set_option linter.all false
set_option maxRecDepth 100000
set_option maxHeartbeats 4000000
set_option exponentiation.threshold 3000
namespace DL
open PySem L2 Hull
theorem cut_from {xs : List D} {i : Nat} (h : i ≤ xs.length) : cutD xs (some (i : Int)) none = xs.drop i := by
  unfold cutD
  have e1 : HT.sIx xs.length 0 (some (i : Int)) = i := by
    unfold HT.sIx
    simp
    split <;> omega
  have e2 : HT.sIx xs.length xs.length none = xs.length := rfl
  rw [e1, e2, List.take_of_length_le (by simp)]
def stpP (z : (Int × Int) × (Int × Int)) : Int × Int := (z.2.1 - z.1.1, z.2.2 - z.1.2)
def S_steps : DSpec := fun ds M Q => ∃ (R : List (Int × Int)), ds = [.tup (R.map pt2)] ∧ R ≠ [] ∧ R.length < 1000 ∧
  ∀ (l : Nat) (M' : Mem), Ex M M' → M.length ≤ l → M'[l]? = some (((sidesL R).map stpP).map pt2) → Q (.lst l) M'
def gt0 (p : Int × Int) : Bool := decide (0 < p.1 ∨ (0 = p.1 ∧ 0 < p.2))
def caS (a b : Int × Int) : Bool := if gt0 a = gt0 b then decide (0 < cr a b) else gt0 a
def S_caS : DSpec := fun ds M Q => ∃ (a b : Int × Int), ds = [pt2 a, pt2 b] ∧ Sm 1000 a ∧ Sm 1000 b ∧ Q (.bl (caS a b)) M
theorem caS_no {a b : Int × Int} (h : caS a b = true) : caS b a = false := by
  unfold caS at *
  by_cases e : gt0 a = gt0 b
  · rw [if_pos e] at h
    rw [if_pos e.symm]
    rw [decide_eq_true_eq] at h
    rw [decide_eq_false_iff_not, cr_sw]
    omega
  · rw [if_neg e] at h
    rw [if_neg fun z => e z.symm]
    cases hb : gt0 b with
    | false => rfl
    | true => rw [h, hb] at e; exact (e rfl).elim
-- slots ['rim', 'by', 'x', 'y']
def ir_steps_sum_1 : IS :=
  .seq (.ret (.comp (.tup (.cons (.bin .Sub (.ix (.var 1) (.int 0)) (.ix (.var 2) (.int 0))) (.cons (.bin .Sub (.ix (.var 1) (.int 1)) (.ix (.var 2) (.int 1))) .nil))) [2, 1] [2, 1] (.cons (.call "sides" (.cons (.var 0) .nil)) .nil) .nil)) .skip
abbrev ir_steps_sum : IS := ir_steps_sum_1
-- slots ['rim', 'after', 'before']
def ir_ahead_sum_3 : IS :=
  .seq (.ret (.cmp .Gt (.bin .Sub (.bin .Mult (.ix (.var 0) (.int 0)) (.ix (.var 1) (.int 1))) (.bin .Mult (.ix (.var 0) (.int 1)) (.ix (.var 1) (.int 0)))) (.int 0))) .skip
def ir_ahead_sum_2 : IS :=
  .seq (.ret (.cmp .Gt (.var 0) (.tup (.cons (.int 0) (.cons (.int 0) .nil))))) .skip
def ir_ahead_sum_1 : IS :=
  .seq (.ite (.cmp .NotEq (.cmp .Gt (.var 0) (.tup (.cons (.int 0) (.cons (.int 0) .nil)))) (.cmp .Gt (.var 1) (.tup (.cons (.int 0) (.cons (.int 0) .nil))))) ir_ahead_sum_2 .skip) ir_ahead_sum_3
abbrev ir_ahead_sum : IS := ir_ahead_sum_1
-- slots ['one', 'other']
def ir_merged_10 : IS :=
  .seq (.ret (.bin .Add (.bin .Add (.var 4) (.sl (.var 0) (.cons (.var 2) .nil) .nil)) (.sl (.var 1) (.cons (.var 3) .nil) .nil))) .skip
def ir_merged_9 : IS :=
  .seq (.asg (.v 3) (.bin .Add (.var 3) (.var 8))) .skip
def ir_merged_8 : IS :=
  .seq (.asg (.v 2) (.bin .Add (.var 2) (.var 7))) ir_merged_9
def ir_merged_7 : IS :=
  .seq (.ex (.mth .append (.var 4) (.cons (.tup (.cons (.bin .Add (.bin .Mult (.var 7) (.ix (.var 5) (.int 0))) (.bin .Mult (.var 8) (.ix (.var 6) (.int 0)))) (.cons (.bin .Add (.bin .Mult (.var 7) (.ix (.var 5) (.int 1))) (.bin .Mult (.var 8) (.ix (.var 6) (.int 1)))) .nil))) .nil))) ir_merged_8
def ir_merged_6 : IS :=
  .seq (.asg (.v 8) (.blt .int (.cons (.not (.call "comes_ahead" (.cons (.var 5) (.cons (.var 6) .nil)))) .nil))) ir_merged_7
def ir_merged_5 : IS :=
  .seq (.asg (.v 7) (.blt .int (.cons (.not (.call "comes_ahead" (.cons (.var 6) (.cons (.var 5) .nil)))) .nil))) ir_merged_6
def ir_merged_4 : IS :=
  .seq (.par [5, 6] (.cons (.ix (.var 0) (.var 2)) (.cons (.ix (.var 1) (.var 3)) .nil))) ir_merged_5
def ir_merged_3 : IS :=
  .seq (.whl (.and (.cmp .Lt (.var 2) (.blt .len (.cons (.var 0) .nil))) (.one (.cmp .Lt (.var 3) (.blt .len (.cons (.var 1) .nil))))) ir_merged_4) ir_merged_10
def ir_merged_2 : IS :=
  .seq (.asg (.v 4) (.lst .nil)) ir_merged_3
def ir_merged_1 : IS :=
  .seq (.asg (.t (.cons (.v 2) (.cons (.v 3) .nil))) (.tup (.cons (.int 0) (.cons (.int 0) .nil)))) ir_merged_2
abbrev ir_merged : IS := ir_merged_1
-- slots ['mine', 'theirs', 'i', 'j', 'found', 'one', 'other', 'first', 'second']
def ir_sum_of_6 : IS :=
  .seq (.ret (.ite (.cmp .Gt (.blt .len (.cons (.var 4) .nil)) (.int 1)) (.blt .tuple (.cons (.sl (.var 4) .nil (.cons (.neg (.int 1)) .nil)) .nil)) (.blt .tuple (.cons (.var 4) .nil)))) .skip
def ir_sum_of_5 : IS :=
  .seq (.ex (.mth .append (.var 4) (.cons (.tup (.cons (.var 2) (.cons (.var 3) .nil))) .nil))) .skip
def ir_sum_of_4 : IS :=
  .seq (.par [2, 3] (.cons (.bin .Add (.var 2) (.ix (.var 5) (.int 0))) (.cons (.bin .Add (.var 3) (.ix (.var 5) (.int 1))) .nil))) ir_sum_of_5
def ir_sum_of_3 : IS :=
  .seq (.for_ (.v 5) (.cons (.call "merged" (.cons (.call "steps_of" (.cons (.var 0) .nil)) (.cons (.call "steps_of" (.cons (.var 1) .nil)) .nil))) .nil) ir_sum_of_4) ir_sum_of_6
def ir_sum_of_2 : IS :=
  .seq (.asg (.v 4) (.lst (.cons (.tup (.cons (.var 2) (.cons (.var 3) .nil))) .nil))) ir_sum_of_3
def ir_sum_of_1 : IS :=
  .seq (.par [2, 3] (.cons (.bin .Add (.ix (.ix (.var 0) (.int 0)) (.int 0)) (.ix (.ix (.var 1) (.int 0)) (.int 0))) (.cons (.bin .Add (.ix (.ix (.var 0) (.int 0)) (.int 1)) (.ix (.ix (.var 1) (.int 0)) (.int 1))) .nil))) ir_sum_of_2
abbrev ir_sum_of : IS := ir_sum_of_1
-- slots ['one', 'other', 'x', 'y', 'found', 'step']
def un2 : D → (Int × Int) × (Int × Int)
  | .tup [x, y] => (unpt x, unpt y)
  | _ => ((0, 0), (0, 0))
theorem un2_pr2 (z : (Int × Int) × (Int × Int)) : un2 (pr2 z) = z := rfl
theorem map_prs {f : (Int × Int) × (Int × Int) → D} : ∀ {zs : List ((Int × Int) × (Int × Int))}, (zs.map pr2).filterMap (fun d => some (f (un2 d))) = zs.map f
  | [] => rfl
  | z :: zs => by
    have := map_prs (f := f) (zs := zs)
    rw [List.map_cons, List.filterMap_cons, List.map_cons, this, un2_pr2]
theorem steps_sum_ok (G : Gam) (h : G "sides" = S_sides) : ∀ ds M Q, S_steps ds M Q → wpS G ir_steps_sum (bodyE Q) (startD (3 - ds.length) ds) M := by
  rintro ds M Q ⟨R, rfl, ne, few, q⟩
  have sl := sidesL_len R
  simp [ir_steps_sum_1, w_ret, startD]
  refine w_compG ?_
  simp [h]
  refine ⟨R, rfl, ne, few, ?_⟩
  simp
  refine rest_pure (xs := (sidesL R).map pr2) (fun d => some (pt2 (stpP (un2 d)))) (by simp) (by rw [List.length_map, sz_eq]; omega) ?_ ?_
  · intro x hx T hT
    obtain ⟨z, hz, rfl⟩ := List.mem_map.mp hx
    rw [un2_pr2] at hT
    simp [pr2, sz_eq]
    exact hT
  · rw [map_prs (f := fun z => pt2 (stpP z))]
    refine q _ _ (((Ex.refl M).app _).app _) (by simp) ?_
    rw [ga_len]; simp [Function.comp_def]
theorem gtp0 {p : Int × Int} {M : Mem} {Q : Kn} : cmpD .Gt (pt2 p) (.tup [.int 0, .int 0]) M Q = Q (.bl (gt0 p)) M := rfl
theorem ahead_sum_ok (G : Gam) : ∀ ds M Q, S_caS ds M Q → wpS G ir_ahead_sum (bodyE Q) (startD (2 - ds.length) ds) M := by
  rintro ds M Q ⟨a, b, rfl, sa, sb, q⟩
  have l1 := lg_of sa.1
  have l2 := lg_of sa.2
  have l3 := lg_of sb.1
  have l4 := lg_of sb.2
  simp [ir_ahead_sum_1, w_ite, w_skip, startD, sz_eq, gtp0]
  unfold caS at q
  by_cases e : gt0 a = gt0 b
  · rw [if_pos e] at q
    simp [e, ir_ahead_sum_3, w_ret]
    exact ⟨by omega, by omega, by have ec : cr a b = a.1 * b.2 - a.2 * b.1 := rfl
                                  rw [ec] at q
                                  simpa using q⟩
  · rw [if_neg e] at q
    simp [e, ir_ahead_sum_2, w_ret, sz_eq, gtp0]
    exact q
theorem len_steps : ∀ ds M Q, S_steps ds M Q → ds.length = 1 := fun _ _ _ ⟨_, e, _⟩ => by rw [e]; rfl
theorem len_caS : ∀ ds M Q, S_caS ds M Q → ds.length = 2 := fun _ _ _ ⟨_, _, e, _⟩ => by rw [e]; rfl
end DL

set_option Elab.async false
set_option linter.all false
set_option maxRecDepth 100000
set_option maxHeartbeats 4000000
set_option exponentiation.threshold 3000
namespace DL
open PySem L2 Hull
def ir_comes_ahead_4 : IS :=
  .seq (.ret (.cmp .Lt (.bin .Mult (.ix (.var 0) (.int 1)) (.ix (.var 1) (.int 2))) (.bin .Mult (.ix (.var 1) (.int 1)) (.ix (.var 0) (.int 2))))) .skip
def ir_comes_ahead_3 : IS :=
  .seq (.ret (.cmp .Lt (.var 2) (.var 3))) .skip
def ir_comes_ahead_2 : IS :=
  .seq (.ite (.cmp .NotEq (.var 2) (.var 3)) ir_comes_ahead_3 .skip) ir_comes_ahead_4
def ir_comes_ahead_1 : IS :=
  .seq (.par [2, 3] (.cons (.bin .Mult (.ix (.var 0) (.int 0)) (.ix (.var 1) (.int 2))) (.cons (.bin .Mult (.ix (.var 1) (.int 0)) (.ix (.var 0) (.int 2))) .nil))) ir_comes_ahead_2
abbrev ir_comes_ahead : IS := ir_comes_ahead_1
-- slots ['one', 'other', 'left', 'right']
-- slots ['marks', 'many', 'rising', 'top', 'k']
-- slots ['thing', 'one']
/-- a place with its under -/
abbrev P3 := Int × Int × Int
def pt3 (p : P3) : D := .tup [.int p.1, .int p.2.1, .int p.2.2]
def Sm3 (k : Nat) (p : P3) : Prop := p.1.natAbs < 2 ^ k ∧ p.2.1.natAbs < 2 ^ k ∧ p.2.2.natAbs < 2 ^ k
theorem Sm3.up {k j : Nat} {p : P3} (h : Sm3 k p) (l : k ≤ j) : Sm3 j p := ⟨up_lt h.1 l, up_lt h.2.1 l, up_lt h.2.2 l⟩
section
variable {G : Gam} {ρ : En} {M : Mem} {Q : Kn} {p q : P3}
@[simp] theorem seqOf_p3 : seqOf M (pt3 p) = some [.int p.1, .int p.2.1, .int p.2.2] := rfl
@[simp] theorem wpG_p3 {g : IG} {P : En → Mem → Prop} : wpG G (.t g) (pt3 p) ρ M P = (3 = lenG g ∧ wpGs G g [.int p.1, .int p.2.1, .int p.2.2] ρ M P) := wpG_t
end
def unm : D → P3
  | .tup [.int a, .int b, .int c] => (a, b, c)
  | _ => (0, 0, 0)
@[simp] theorem unm_pt {p : P3} : unm (pt3 p) = p := rfl
/-! lists of truth values -/
def idx : D → Nat
  | .int i => i.toNat
  | _ => 0
@[simp] theorem idx_i {i : Int} : idx (.int i) = i.toNat := rfl
def mth (ms : List P3) (k : Nat) : P3 := ms.getD k (0, 0, 0)
theorem NzL.mem {n b t w : Nat} {M : Mem} {xs : List D} {x : D} (l : NzL n M b t w xs) (h : x ∈ xs) : Nz n M b t w x := by
  obtain ⟨i, hi⟩ := List.mem_iff_getElem?.mp h
  exact l.get hi
end DL

set_option Elab.async false
set_option linter.all false
set_option maxRecDepth 100000
set_option maxHeartbeats 4000000
namespace Hull
open PySem DL
theorem LP.trans {u v w : P} (hu : LP u) (hv : LP v) (hw : LP w) (h1 : 0 ≤ cr u v) (h2 : 0 ≤ cr v w) (h3 : 0 < cr u v ∨ 0 < cr v w) : 0 < cr u w := trans_lt hu.hp hv.hp hw.hp h1 h2 h3
theorem lx_lp {a b : P} : Lx a b ↔ LP (sb b a) := ⟨lp_of, fun h => by unfold LP sb at h; unfold Lx; simp only at h; omega⟩
theorem sb_neg (a b : P) : neg (sb a b) = sb b a := by unfold neg sb; simp only [Prod.mk.injEq]; omega
theorem cr_neg (u v : P) : cr (neg u) (neg v) = cr u v := by unfold cr neg; grind
theorem cr_negr (u v : P) : cr u (neg v) = - cr u v := by unfold cr neg; grind
theorem cr_negl (u v : P) : cr (neg u) v = - cr u v := by unfold cr neg; grind
theorem tn_edge (a b c : P) : tn a b c = cr (sb b a) (sb c b) := by unfold tn cr sb; grind
theorem tn_go (q : Nat → P) (i k : Nat) : tn (q i) (q (i + 1)) (q (k + 1)) = tn (q i) (q (i + 1)) (q k) + cr (sb (q (i + 1)) (q i)) (sb (q (k + 1)) (q k)) := by unfold tn cr sb; grind
theorem tn_a (a b : P) : tn a b a = 0 := by unfold tn; grind
theorem tn_b (a b : P) : tn a b b = 0 := by unfold tn; grind
/-- a walk that rises, then falls, always to the left -/
structure Walk (q : Nat → P) (n t : Nat) : Prop where
  t0 : 0 < t
  tlt : t < n
  up : ∀ k, k < t → Lx (q k) (q (k + 1))
  dn : ∀ k, t ≤ k → k < n → Lx (q (k + 1)) (q k)
  lf : ∀ k, k + 2 ≤ n → 0 < Hull.tn (q k) (q (k + 1)) (q (k + 2))
  per : ∀ k, q (k + n) = q k
theorem Walk.up_cr {q : Nat → P} {n t : Nat} (w : Walk q n t) (i : Nat) : ∀ j, i < j → j < t → 0 < cr (sb (q (i + 1)) (q i)) (sb (q (j + 1)) (q j)) := by
  intro j hij hj
  induction j with
  | zero => omega
  | succ j ih =>
    have e := w.lf j (by have := w.tlt; omega)
    rw [tn_edge] at e
    by_cases h : i = j
    · subst h; exact e
    · exact LP.trans (lx_lp.mp (w.up i (by omega))) (lx_lp.mp (w.up j (by omega))) (lx_lp.mp (w.up (j + 1) hj)) (Int.le_of_lt (ih (by omega) (by omega))) (Int.le_of_lt e) (.inr e)
theorem Walk.dn_cr {q : Nat → P} {n t : Nat} (w : Walk q n t) (i : Nat) (hi : t ≤ i) : ∀ j, i < j → j < n → 0 < cr (sb (q (i + 1)) (q i)) (sb (q (j + 1)) (q j)) := by
  intro j hij hj
  induction j with
  | zero => omega
  | succ j ih =>
    have e := w.lf j (by omega)
    rw [tn_edge] at e
    by_cases h : i = j
    · subst h; exact e
    · have lp : ∀ k, t ≤ k → k < n → LP (neg (sb (q (k + 1)) (q k))) := fun k h1 h2 => by rw [sb_neg]; exact lx_lp.mp (w.dn k h1 h2)
      have := LP.trans (lp i hi (by omega)) (lp j (by omega) (by omega)) (lp (j + 1) (by omega) hj) (by rw [cr_neg]; exact Int.le_of_lt (ih (by omega) (by omega))) (by rw [cr_neg]; exact Int.le_of_lt e) (.inr (by rw [cr_neg]; exact e))
      rwa [cr_neg] at this
/-- once the walk turns away from a rising edge it does so to its end -/
theorem Walk.away {q : Nat → P} {n t : Nat} (w : Walk q n t) {i j k : Nat} (hi : i < t) (hj : t ≤ j) (hjk : j < k) (hk : k < n) (h : cr (sb (q (i + 1)) (q i)) (sb (q (j + 1)) (q j)) ≤ 0) : cr (sb (q (i + 1)) (q i)) (sb (q (k + 1)) (q k)) < 0 := by
  have lp : ∀ k, t ≤ k → k < n → LP (neg (sb (q (k + 1)) (q k))) := fun k h1 h2 => by rw [sb_neg]; exact lx_lp.mp (w.dn k h1 h2)
  have c := w.dn_cr j hj k hjk hk
  have := LP.trans (lx_lp.mp (w.up i hi)) (lp j hj (by omega)) (lp k (by omega) hk) (by rw [cr_negr]; omega) (by rw [cr_neg]; omega) (.inr (by rw [cr_neg]; exact c))
  rw [cr_negr] at this
  omega
theorem Walk.low {q : Nat → P} {n t : Nat} (w : Walk q n t) {i : Nat} (hi : i < t) : ∀ k, k ≤ t → k = i ∨ k = i + 1 ∨ 0 < Hull.tn (q i) (q (i + 1)) (q k) := by
  intro k hk
  have hn := w.tlt
  by_cases h1 : k ≤ i
  · -- down to k
    have key : ∀ d, d ≤ i → d ≠ 0 → 0 < Hull.tn (q i) (q (i + 1)) (q (i - d)) := by
      intro d
      induction d with
      | zero => intro _ h; exact absurd rfl h
      | succ d ih =>
        intro h2 _
        have g := tn_go q i (i - (d + 1))
        have e1 : i - (d + 1) + 1 = i - d := by omega
        rw [e1] at g
        have c := w.up_cr (i - (d + 1)) i (by omega) hi
        rw [e1] at c
        rw [cr_sw] at g
        have hz : 0 ≤ Hull.tn (q i) (q (i + 1)) (q (i - d)) := by
          by_cases hd : d = 0
          · subst hd; simp [tn_a]
          · exact Int.le_of_lt (ih (by omega) hd)
        omega
    by_cases h2 : k = i
    · exact .inl h2
    · have := key (i - k) (by omega) (by omega)
      have e : i - (i - k) = k := by omega
      rw [e] at this
      exact .inr (.inr this)
  · have key : ∀ d, i + 2 + d ≤ t → 0 < Hull.tn (q i) (q (i + 1)) (q (i + 2 + d)) := by
      intro d
      induction d with
      | zero =>
        intro h2
        have g := tn_go q i (i + 1)
        rw [tn_b] at g
        have c := w.up_cr i (i + 1) (by omega) (by omega)
        show 0 < Hull.tn (q i) (q (i + 1)) (q (i + 1 + 1))
        omega
      | succ d ih =>
        intro h2
        have g := tn_go q i (i + 2 + d)
        have c := w.up_cr i (i + 2 + d) (by omega) (by omega)
        have := ih (by omega)
        show 0 < Hull.tn (q i) (q (i + 1)) (q (i + 2 + d + 1))
        omega
    by_cases h2 : k = i + 1
    · exact .inr (.inl h2)
    · have := key (k - (i + 2)) (by omega)
      have e : i + 2 + (k - (i + 2)) = k := by omega
      rw [e] at this
      exact .inr (.inr this)
theorem Walk.high {q : Nat → P} {n t : Nat} (w : Walk q n t) {i : Nat} (hi : i < t) {k : Nat} (h1 : t < k) (h2 : k < n) : 0 < Hull.tn (q i) (q (i + 1)) (q k) := by
  have nn : ∀ k, k ≤ t → 0 ≤ Hull.tn (q i) (q (i + 1)) (q k) := fun k hk => by
    rcases w.low hi k hk with rfl | rfl | h
    · rw [tn_a]; omega
    · rw [tn_b]; omega
    · omega
  by_cases h : ∃ j, t ≤ j ∧ j < k ∧ cr (sb (q (i + 1)) (q i)) (sb (q (j + 1)) (q j)) ≤ 0
  · obtain ⟨j, hj, hjk, hc⟩ := h
    have fall : ∀ d, k + d ≤ n → d ≠ 0 → Hull.tn (q i) (q (i + 1)) (q (k + d)) < Hull.tn (q i) (q (i + 1)) (q k) := by
      intro d
      induction d with
      | zero => intro _ h; exact absurd rfl h
      | succ d ih =>
        intro hd _
        have g := tn_go q i (k + d)
        have c := w.away hi hj (show j < k + d by omega) (by omega) hc
        by_cases hd0 : d = 0
        · subst hd0
          show Hull.tn (q i) (q (i + 1)) (q (k + 0 + 1)) < _
          simp only [Nat.add_zero] at *
          omega
        · have := ih (by omega) hd0
          show Hull.tn (q i) (q (i + 1)) (q (k + d + 1)) < _
          omega
    have e := fall (n - k) (by omega) (by omega)
    have e2 : k + (n - k) = 0 + n := by omega
    rw [e2, w.per 0] at e
    have := nn 0 (by omega)
    omega
  · have rise : ∀ d, t + d ≤ k → d ≠ 0 → Hull.tn (q i) (q (i + 1)) (q t) < Hull.tn (q i) (q (i + 1)) (q (t + d)) := by
      intro d
      induction d with
      | zero => intro _ h; exact absurd rfl h
      | succ d ih =>
        intro hd _
        have g := tn_go q i (t + d)
        have c : 0 < cr (sb (q (i + 1)) (q i)) (sb (q (t + d + 1)) (q (t + d))) := by
          apply Int.lt_of_not_ge
          intro hc
          exact h ⟨t + d, by omega, by omega, hc⟩
        by_cases hd0 : d = 0
        · subst hd0
          show _ < Hull.tn (q i) (q (i + 1)) (q (t + 0 + 1))
          simp only [Nat.add_zero] at *
          omega
        · have := ih (by omega) hd0
          show _ < Hull.tn (q i) (q (i + 1)) (q (t + d + 1))
          omega
    have e := rise (k - t) (by omega) (by omega)
    have e2 : t + (k - t) = k := by omega
    rw [e2] at e
    have := nn t (by omega)
    omega
theorem Walk.flip {q : Nat → P} {n t : Nat} (w : Walk q n t) (lf : ∀ k, 0 < Hull.tn (q k) (q (k + 1)) (q (k + 2))) : Walk (fun k => neg (q (t + k))) n (n - t) := by
  have t0 := w.t0
  have tn' := w.tlt
  refine ⟨by omega, by omega, fun k hk => ?_, fun k h1 h2 => ?_, fun k _ => ?_, fun k => ?_⟩
  · rw [lx_neg]; exact w.dn (t + k) (by omega) (by omega)
  · rw [lx_neg]
    have e1 : t + k = (t + k - n) + n := by omega
    have e2 : t + (k + 1) = (t + k - n + 1) + n := by omega
    rw [e1, e2, w.per, w.per]
    exact w.up _ (by omega)
  · rw [tn_neg]; exact lf (t + k)
  · show neg (q (t + (k + n))) = neg (q (t + k))
    rw [← Nat.add_assoc, w.per]
/-- all to the left of each edge -/
theorem Walk.left {q : Nat → P} {n t : Nat} (w : Walk q n t) (lf : ∀ k, 0 < Hull.tn (q k) (q (k + 1)) (q (k + 2))) {i k : Nat} (hi : i < n) (hk : k < n) : k = i ∨ k = i + 1 ∨ (k = 0 ∧ i + 1 = n) ∨ 0 < Hull.tn (q i) (q (i + 1)) (q k) := by
  by_cases h : i < t
  · by_cases h2 : k ≤ t
    · rcases w.low h k h2 with h3 | h3 | h3
      · exact .inl h3
      · exact .inr (.inl h3)
      · exact .inr (.inr (.inr h3))
    · exact .inr (.inr (.inr (w.high h (by omega) hk)))
  · have f := w.flip lf
    have tn' := w.tlt
    -- the place of k behind t
    have go : ∀ k', k' < n → k' = i - t ∨ k' = i - t + 1 ∨ 0 < Hull.tn (q i) (q (i + 1)) (q (t + k')) := by
      intro k' hk'
      have e1 : t + (i - t) = i := by omega
      have e2 : t + (i - t + 1) = i + 1 := by omega
      by_cases h2 : k' ≤ n - t
      · rcases f.low (i := i - t) (by omega) k' h2 with h3 | h3 | h3
        · exact .inl h3
        · exact .inr (.inl h3)
        · rw [tn_neg, e1, e2] at h3
          exact .inr (.inr h3)
      · have h3 := f.high (i := i - t) (by omega) (k := k') (by omega) hk'
        rw [tn_neg, e1, e2] at h3
        exact .inr (.inr h3)
    by_cases h2 : t ≤ k
    · rcases go (k - t) (by omega) with h3 | h3 | h3
      · exact .inl (by omega)
      · exact .inr (.inl (by omega))
      · have e : t + (k - t) = k := by omega
        rw [e] at h3
        exact .inr (.inr (.inr h3))
    · rcases go (k + n - t) (by omega) with h3 | h3 | h3
      · exact .inl (by omega)
      · exact .inr (.inr (.inl ⟨by omega, by omega⟩))
      · have e : t + (k + n - t) = k + n := by omega
        rw [e, w.per] at h3
        exact .inr (.inr (.inr h3))

theorem lx_irr (a : P) : ¬ Lx a a := by unfold Lx; omega
theorem lx_ne {a b : P} (h : Lx a b) : a ≠ b := fun e => lx_irr b (by rw [e] at h; exact h)
theorem lx_asym {a b : P} (h : Lx a b) : ¬ Lx b a := by unfold Lx at *; omega
theorem bt_l {a b : P} : Bt a b a := by unfold Bt Lx; omega
theorem bt_r {a b : P} : Bt a b b := by unfold Bt Lx; omega
theorem ed_range {r : P → P → Prop} : ∀ (n : Nat) (q : Nat → P), (∀ k, k < n → r (q k) (q (k + 1))) → Ed r ((List.range (n + 1)).map q)
  | 0, q, _ => trivial
  | n + 1, q, h => by
    rw [List.range_succ_eq_map, List.map_cons, List.map_map]
    have ih := ed_range n (q ∘ Nat.succ) fun k hk => h (k + 1) (by omega)
    rw [List.range_succ_eq_map, List.map_cons, List.map_map] at ih ⊢
    exact ⟨h 0 (by omega), ih⟩
theorem Walk.ne {q : Nat → P} {n t : Nat} (w : Walk q n t) {k : Nat} (hk : k < n) : q k ≠ q (k + 1) := by
  by_cases h : k < t
  · exact lx_ne (w.up k h)
  · exact (lx_ne (w.dn k (by omega) hk)).symm
theorem Walk.least {q : Nat → P} {n t : Nat} (w : Walk q n t) : ∀ k, k < n → ¬ Lx (q k) (q 0) := by
  have up : ∀ k, k ≤ t → ¬ Lx (q k) (q 0) := by
    intro k
    induction k with
    | zero => intro _; exact lx_irr _
    | succ k ih => intro hk h; exact ih (by omega) (lx_tr (w.up k (by omega)) h)
  have dn : ∀ d, d + t ≤ n → ¬ Lx (q (n - d)) (q 0) := by
    intro d
    induction d with
    | zero => intro _; have := w.per 0; rw [Nat.zero_add] at this; rw [Nat.sub_zero, this]; exact lx_irr _
    | succ d ih =>
      intro hd h
      have e := w.dn (n - (d + 1)) (by omega) (by omega)
      have e2 : n - (d + 1) + 1 = n - d := by omega
      rw [e2] at e
      exact ih (by omega) (lx_tr e h)
  intro k hk
  by_cases h : k ≤ t
  · exact up k h
  · have := dn (n - k) (by omega)
    have e : n - (n - k) = k := by omega
    rwa [e] at this
theorem Walk.rim {q : Nat → P} {n t : Nat} (w : Walk q n t) (lf : ∀ k, 0 < Hull.tn (q k) (q (k + 1)) (q (k + 2))) : Rim ((List.range n).map q) ((List.range n).map q) := by
  have t0 := w.t0
  have tl := w.tlt
  obtain ⟨m, rfl⟩ : ∃ m, n = m + 1 := ⟨n - 1, by omega⟩
  have mem : ∀ k, k < m + 1 → q k ∈ (List.range (m + 1)).map q := fun k hk => List.mem_map.mpr ⟨k, List.mem_range.mpr hk, rfl⟩
  have e0 : (List.range (m + 1)).map q = q 0 :: (List.range m).map (q ∘ Nat.succ) := by rw [List.range_succ_eq_map, List.map_cons, List.map_map]
  have en : q (m + 1) = q 0 := by have := w.per 0; rwa [Nat.zero_add] at this
  refine ⟨q 0, (List.range m).map (q ∘ Nat.succ), e0, mem 0 (by omega), ?_, .inr ⟨?_, ?_, ?_⟩⟩
  · intro s hs
    obtain ⟨k, hk, rfl⟩ := List.mem_map.mp hs
    exact w.least k (List.mem_range.mp hk)
  · intro h
    have := congrArg List.length h
    simp at this
    omega
  · rw [← e0]
    refine List.pairwise_map.mpr (List.Pairwise.imp_of_mem (fun {i j} hi hj hij e => ?_) List.pairwise_lt_range)
    have hi := List.mem_range.mp hi
    have hj := List.mem_range.mp hj
    rcases w.left lf (i := i) (k := j) hi hj with h | h | h | h
    · omega
    · subst h; exact w.ne hi e
    · omega
    · rw [← e, tn_a] at h; omega
  · have e1 : q 0 :: ((List.range m).map (q ∘ Nat.succ) ++ [q 0]) = (List.range (m + 1 + 1)).map q := by
      rw [List.range_succ, List.map_append, e0, List.map_cons, List.map_nil, en]; rfl
    rw [e1]
    refine ed_range _ q fun k hk => ⟨w.ne hk, ?_, ?_⟩
    · by_cases h : k + 1 < m + 1
      · exact mem _ h
      · have : k + 1 = m + 1 := by omega
        rw [this, en]; exact mem 0 (by omega)
    · intro s hs
      obtain ⟨j, hj, rfl⟩ := List.mem_map.mp hs
      rcases w.left lf (i := k) (k := j) hk (List.mem_range.mp hj) with h | h | h | h
      · subst h; exact .inr ⟨tn_a _ _, bt_l⟩
      · subst h; exact .inr ⟨tn_b _ _, bt_r⟩
      · obtain ⟨rfl, h⟩ := h
        have : q (k + 1) = q 0 := by rw [h, en]
        rw [this]; exact .inr ⟨tn_b _ _, bt_r⟩
      · exact .inl h
/-! back: a rim is such a walk -/
def cyc (ps : List P) (k : Nat) : P := ps.getD (k % ps.length) (0, 0)
theorem cyc_per (ps : List P) (k : Nat) : cyc ps (k + ps.length) = cyc ps k := by unfold cyc; rw [Nat.add_mod_right]
theorem cyc_lt {ps : List P} {k : Nat} (h : k < ps.length) : ps[k]? = some (cyc ps k) := by
  unfold cyc
  rw [Nat.mod_eq_of_lt h, List.getD_eq_getElem?_getD, List.getElem?_eq_getElem h]; rfl
theorem cyc_mem {ps : List P} (h : 0 < ps.length) (k : Nat) : cyc ps k ∈ ps := by
  have hm : k % ps.length < ps.length := Nat.mod_lt _ h
  have : cyc ps k = cyc ps (k % ps.length) := by unfold cyc; rw [Nat.mod_mod]
  rw [this]
  exact List.mem_of_getElem? (cyc_lt hm)
theorem cyc_mod (ps : List P) (k : Nat) : cyc ps (k % ps.length) = cyc ps k := by unfold cyc; rw [Nat.mod_mod]
theorem cyc_range (ps : List P) : (List.range ps.length).map (cyc ps) = ps := by
  refine List.ext_getElem? fun i => ?_
  rw [List.getElem?_map]
  by_cases h : i < ps.length
  · rw [List.getElem?_range h, cyc_lt h]; rfl
  · rw [List.getElem?_eq_none (by simp; omega), List.getElem?_eq_none (by omega)]; rfl
theorem ed_at {r : P → P → Prop} : ∀ {L : List P} {k : Nat} {a b : P}, Ed r L → L[k]? = some a → L[k + 1]? = some b → r a b
  | x :: y :: L, 0, a, b, h, h1, h2 => by cases h1; cases h2; exact h.1
  | x :: y :: L, k + 1, a, b, h, h1, h2 => ed_at (L := y :: L) (k := k) h.2 h1 h2
  | [x], 0, a, b, h, h1, h2 => by cases h2
  | [x], k + 1, a, b, h, h1, h2 => by cases h2
  | [], k, a, b, h, h1, h2 => by cases h1
theorem rim_nx {ps : List P} (r : Rim ps ps) (h2 : 2 ≤ ps.length) : (∀ k, Nx ps (cyc ps k) (cyc ps (k + 1))) ∧ (∀ s ∈ ps, ¬ Lx s (cyc ps 0)) ∧ ps.Nodup := by
  obtain ⟨a, l, e, ha, hm, hc⟩ := r
  have hne : l ≠ [] := by intro h; rw [e, h] at h2; simp at h2
  rcases hc with ⟨h, _⟩ | ⟨_, nd, ed⟩
  · exact absurd h hne
  have e0 : cyc ps 0 = a := by
    have := cyc_lt (ps := ps) (k := 0) (by omega)
    rw [e] at this
    simp at this
    rw [e]; exact this.symm
  refine ⟨fun k => ?_, fun s hs => by rw [e0]; exact hm s hs, by rw [e]; exact nd⟩
  rw [← cyc_mod ps k]
  have e3 : cyc ps (k + 1) = cyc ps (k % ps.length + 1) := by unfold cyc; rw [Nat.mod_add_mod]
  rw [e3]
  have hk : k % ps.length < ps.length := Nat.mod_lt _ (by omega)
  generalize k % ps.length = j at hk ⊢
  have eL : a :: (l ++ [a]) = ps ++ [a] := by rw [e]; rfl
  rw [eL] at ed
  refine ed_at (k := j) ed (by rw [List.getElem?_append_left hk, cyc_lt hk]) ?_
  by_cases h : j + 1 < ps.length
  · rw [List.getElem?_append_left h, cyc_lt h]
  · have : j + 1 = 0 + ps.length := by omega
    rw [this, cyc_per, e0, List.getElem?_append_right (by omega)]
    simp
theorem nx_left {S : List P} {a b c : P} (h1 : Nx S a b) (h2 : Nx S b c) (ha : a ∈ S) (hc : c ≠ a) : 0 < tn a b c := by
  rcases h1.2.2 c h2.2.1 with h | ⟨h, hb⟩
  · exact h
  · exfalso
    have e : tn b c a = tn a b c := by unfold tn; grind
    rcases h2.2.2 a ha with h' | ⟨_, hb'⟩
    · omega
    · have n1 := h1.1
      have n2 := h2.1
      have o1 := ne_or h1.1
      have o2 := ne_or h2.1
      have o3 := ne_or hc
      unfold Bt Lx at hb hb'
      omega
theorem rim_walk {ps : List P} (r : Rim ps ps) (h3 : 3 ≤ ps.length) : (∃ t, Walk (cyc ps) ps.length t) ∧ ∀ k, 0 < tn (cyc ps k) (cyc ps (k + 1)) (cyc ps (k + 2)) := by
  obtain ⟨nx, least, nd⟩ := rim_nx r (by omega)
  have mem : ∀ k, cyc ps k ∈ ps := cyc_mem (by omega)
  have dis : ∀ i j, i < j → j < ps.length → cyc ps i ≠ cyc ps j := fun i j hij hj e => by
    have := List.pairwise_iff_getElem.mp nd i j (by omega) hj hij
    apply this
    have a1 := cyc_lt (ps := ps) (k := i) (by omega)
    have a2 := cyc_lt (ps := ps) (k := j) hj
    rw [List.getElem?_eq_getElem (by omega)] at a1
    rw [List.getElem?_eq_getElem hj] at a2
    rw [Option.some.inj a1, Option.some.inj a2, e]
  have lf : ∀ k, 0 < tn (cyc ps k) (cyc ps (k + 1)) (cyc ps (k + 2)) := fun k => by
    refine nx_left (nx k) (nx (k + 1)) (mem k) fun e => ?_
    have hk : k % ps.length < ps.length := Nat.mod_lt _ (by omega)
    have e1 : cyc ps (k + 2) = cyc ps ((k % ps.length + 2) % ps.length) := by unfold cyc; rw [Nat.mod_mod, Nat.mod_add_mod]
    have e2 : cyc ps k = cyc ps (k % ps.length) := (cyc_mod ps k).symm
    rw [e1, e2] at e
    generalize k % ps.length = j at hk e
    by_cases h : j + 2 < ps.length
    · rw [Nat.mod_eq_of_lt h] at e
      exact dis j (j + 2) (by omega) h e.symm
    · have : (j + 2) % ps.length = j + 2 - ps.length := by
        rw [Nat.mod_eq_sub_mod (by omega), Nat.mod_eq_of_lt (by omega)]
      rw [this] at e
      exact dis (j + 2 - ps.length) j (by omega) hk e
  refine ⟨?_, lf⟩
  -- behind a fall no rise
  have fall : ∀ k, k + 1 < ps.length → Lx (cyc ps (k + 1)) (cyc ps k) → Lx (cyc ps (k + 1 + 1)) (cyc ps (k + 1)) := by
    intro k hk h
    apply Classical.byContradiction
    intro h'
    have rise := lx_nx h' (nx (k + 1)).1.symm
    have min : ∀ s ∈ ps, ¬ Lx s (cyc ps (k + 1)) := by
      intro s hs hl
      have i1 : 0 ≤ tn (cyc ps k) (cyc ps (k + 1)) s := by rcases (nx k).2.2 s hs with h | h <;> omega
      have i2 : 0 ≤ tn (cyc ps (k + 1)) (cyc ps (k + 1 + 1)) s := by rcases (nx (k + 1)).2.2 s hs with h | h <;> omega
      have i3 := lf k
      rw [tn_edge] at i1 i3
      rw [tn_cr] at i2
      have u1 := lx_lp.mp h
      have u2 := lx_lp.mp hl
      have u3 := lx_lp.mp rise
      -- u1 : LP (q k - q (k+1)), u2 : LP (q (k+1) - s), u3 : LP (q (k+2) - q (k+1))
      have c1 : 0 ≤ cr (sb (cyc ps k) (cyc ps (k + 1))) (sb (cyc ps (k + 1)) s) := by
        have : cr (sb (cyc ps (k + 1)) (cyc ps k)) (sb s (cyc ps (k + 1))) = cr (sb (cyc ps k) (cyc ps (k + 1))) (sb (cyc ps (k + 1)) s) := by
          rw [← sb_neg (cyc ps k), ← sb_neg (cyc ps (k + 1)) s, cr_neg]
        omega
      have c2 : 0 ≤ cr (sb (cyc ps (k + 1)) s) (sb (cyc ps (k + 1 + 1)) (cyc ps (k + 1))) := by
        have : cr (sb (cyc ps (k + 1)) s) (sb (cyc ps (k + 1 + 1)) (cyc ps (k + 1))) = cr (sb (cyc ps (k + 1 + 1)) (cyc ps (k + 1))) (sb s (cyc ps (k + 1))) := by
          rw [← sb_neg (cyc ps (k + 1)) s, cr_negr, cr_sw]
        omega
      have c3 := trans_le u1.hp u2.hp u3.hp c1 c2
      have c4 : cr (sb (cyc ps (k + 1)) (cyc ps k)) (sb (cyc ps (k + 2)) (cyc ps (k + 1))) = - cr (sb (cyc ps k) (cyc ps (k + 1))) (sb (cyc ps (k + 2)) (cyc ps (k + 1))) := by
        rw [← sb_neg (cyc ps k), cr_negl]
      have e : k + 1 + 1 = k + 2 := rfl
      rw [e] at c3
      omega
    have := lx_eq (min _ (mem 0)) (least _ (mem (k + 1)))
    exact dis 0 (k + 1) (by omega) hk this
  have first : Lx (cyc ps 0) (cyc ps 1) := lx_nx (least _ (mem 1)) (nx 0).1.symm
  have last : Lx (cyc ps ps.length) (cyc ps (ps.length - 1)) := by
    have e : cyc ps ps.length = cyc ps 0 := by have := cyc_per ps 0; rwa [Nat.zero_add] at this
    rw [e]
    exact lx_nx (least _ (mem _)) (dis 0 (ps.length - 1) (by omega) (by omega)).symm
  -- the first fall
  have ex : ∃ t, t < ps.length ∧ ¬ Lx (cyc ps t) (cyc ps (t + 1)) := ⟨ps.length - 1, by omega, by
    have e : ps.length - 1 + 1 = ps.length := by omega
    rw [e]; exact lx_asym last⟩
  obtain ⟨t, ⟨ht, hf⟩, hmin⟩ : ∃ t, (t < ps.length ∧ ¬ Lx (cyc ps t) (cyc ps (t + 1))) ∧ ∀ j, j < t → Lx (cyc ps j) (cyc ps (j + 1)) := by
    obtain ⟨t, ht, hf⟩ := ex
    induction t using Nat.strongRecOn with
    | ind t ih =>
      by_cases h : ∃ j, j < t ∧ ¬ Lx (cyc ps j) (cyc ps (j + 1))
      · obtain ⟨j, hj, h⟩ := h
        exact ih j hj (by omega) h
      · exact ⟨t, ⟨ht, hf⟩, fun j hj => Classical.byContradiction fun h' => h ⟨j, hj, h'⟩⟩
  refine ⟨t, ?_, ht, hmin, ?_, fun k _ => lf k, cyc_per ps⟩
  · rcases Nat.eq_zero_or_pos t with rfl | h
    · exact absurd first hf
    · exact h
  · intro k hk
    induction k with
    | zero => intro h; have : t = 0 := by omega
              subst this; exact lx_nx hf (nx 0).1
    | succ k ih =>
      intro h
      by_cases hkt : t = k + 1
      · subst hkt; exact lx_nx hf (nx (k + 1)).1
      · exact fall k h (ih (by omega) (by omega))
end Hull

set_option Elab.async false
set_option linter.all false
set_option maxRecDepth 100000
set_option maxHeartbeats 4000000
namespace DL
open PySem Hull
instance lxDec (p q : P) : Decidable (Lx p q) := by unfold Lx; exact inferInstance
section
variable {s : P3 → P} {W : Int} {ms : List P3}
end
end DL

set_option Elab.async false
set_option linter.all false
set_option maxRecDepth 100000
set_option maxHeartbeats 4000000
set_option exponentiation.threshold 3000
namespace DL
open PySem L2 Hull
-- slots ['thing', 'one']
-- slots ['rim']
end DL

set_option Elab.async false
set_option linter.all false
set_option maxRecDepth 100000
set_option maxHeartbeats 4000000
namespace DL
open PySem L2
end DL

set_option Elab.async false
set_option linter.all false
set_option maxRecDepth 100000
set_option maxHeartbeats 4000000
namespace DL
open PySem L2 Hull PyProof PyProof.Rows
/-! a place held by a rim -/
theorem lagr (u v : P) : dt u u * dt v v = dt u v * dt u v + cr u v * cr u v := by unfold dt cr; grind
theorem dt_pos_of {u : P} (h : u ≠ (0, 0)) : 0 < dt u u := by
  have := dd_nn u
  rcases Int.lt_or_eq_of_le this with h' | h'
  · exact h'
  · exfalso
    apply h
    unfold dt at h'
    have a1 : 0 ≤ u.1 * u.1 := by rcases Int.le_total 0 u.1 with g | g; exact Int.mul_nonneg g g; exact Int.mul_nonneg_of_nonpos_of_nonpos g g
    have a2 : 0 ≤ u.2 * u.2 := by rcases Int.le_total 0 u.2 with g | g; exact Int.mul_nonneg g g; exact Int.mul_nonneg_of_nonpos_of_nonpos g g
    have b1 : u.1 * u.1 = 0 := by omega
    have b2 : u.2 * u.2 = 0 := by omega
    have c1 : u.1 = 0 := by rcases Int.mul_eq_zero.mp b1 with h | h <;> exact h
    have c2 : u.2 = 0 := by rcases Int.mul_eq_zero.mp b2 with h | h <;> exact h
    exact Prod.ext c1 c2
theorem sb_ne {a b : P} (h : a ≠ b) : sb b a ≠ (0, 0) := fun z => h (by
  unfold sb at z
  have h1 := congrArg Prod.fst z
  have h2 := congrArg Prod.snd z
  simp only at h1 h2
  exact Prod.ext (by omega) (by omega))
theorem bt_of {a b q : P} (ne : a ≠ b) (z : tn a b q = 0) (h1 : 0 ≤ dt (sb b a) (sb q a)) (h2 : 0 ≤ dt (sb b a) (sb b q)) : Bt a b q := by
  have hA := dt_pos_of (sb_ne ne)
  have zc : cr (sb b a) (sb q a) = 0 := z
  have L := lagr (sb b a) (sb q a)
  rw [zc] at L
  have e2 : dt (sb b a) (sb b q) = dt (sb b a) (sb b a) - dt (sb b a) (sb q a) := by unfold dt sb; grind
  rw [e2] at h2
  have sgn1 : cr (neg (sb b a)) (sb b a) = 0 := by unfold cr neg; grind
  have sgn2 : dt (neg (sb b a)) (sb b a) = - dt (sb b a) (sb b a) := by unfold dt neg; grind
  have sgn3 : cr (neg (sb b a)) (sb q a) = - cr (sb b a) (sb q a) := by unfold cr neg; grind
  have sgn4 : dt (neg (sb b a)) (sb q a) = - dt (sb b a) (sb q a) := by unfold dt neg; grind
  by_cases hq : q = a
  · rw [hq]; exact bt_l
  · have hB := dt_pos_of (sb_ne (Ne.symm hq))
    have eap : ∀ x y : P, ap x y = dt (sb y x) (sb y x) := fun x y => rfl
    generalize dt (sb b a) (sb q a) = T at *
    generalize hAA : dt (sb b a) (sb b a) = A at *
    generalize hBB : dt (sb q a) (sb q a) = B at *
    have hT : 0 < T := by
      rcases Int.lt_or_eq_of_le h1 with h | h
      · exact h
      · rw [← h] at L
        have := Int.mul_pos hA hB
        omega
    refine par_bt (d := neg (sb b a)) (.inr ⟨sgn1, by omega⟩) (.inr ⟨by omega, by omega⟩) z ?_
    rw [eap, eap, hAA, hBB]
    have m1 : T * T ≤ A * T := Int.mul_le_mul_of_nonneg_right (by omega) (by omega)
    have m2 : A * T ≤ A * A := Int.mul_le_mul_of_nonneg_left (by omega) (by omega)
    exact Int.le_of_mul_le_mul_left (by omega : A * B ≤ A * A) hA
end DL

set_option Elab.async false
set_option linter.all false
set_option maxRecDepth 100000
set_option maxHeartbeats 4000000
namespace DL
open PySem L2 Hull PyProof PyProof.Rows
/-! data of numbers, texts, tuples: == is likeness -/
inductive Pu : Nat → D → Prop
  | int {t : Nat} (i : Int) : Pu t (.int i)
  | non {t : Nat} : Pu t .non
  | str {t : Nat} {s : Str} (h : PyData.strOk s = true) : Pu t (.str s)
  | tup {t : Nat} {xs : List D} (h : ∀ x ∈ xs, Pu t x) : Pu (t + 1) (.tup xs)
structure PG (t : Nat) (p : PyData) : Prop where
  lay : PyData.canLay0 p = true
  dep : PyData.depth p ≤ t
theorem pu_list {t : Nat} : ∀ {xs : List D}, (∀ x ∈ xs, ∃ p, (∀ M, PD M x p) ∧ PG t p) → ∃ ps, (∀ M, PDL M xs ps) ∧ PyData.canLayAll0 ps = true ∧ PyData.depthAll ps ≤ t
  | [], _ => ⟨[], fun _ => .nil, rfl, by simp [PyData.depthAll]⟩
  | x :: xs, h => by
    obtain ⟨p, h1, h2, h3⟩ := h x (by simp)
    obtain ⟨ps, g1, g2, g3⟩ := pu_list (xs := xs) fun y hy => h y (by simp [hy])
    exact ⟨p :: ps, fun M => .cons (h1 M) (g1 M), by simp [PyData.canLayAll0, h2, g2], by simp [PyData.depthAll]; omega⟩
theorem Pu.pd : ∀ {t : Nat} {d : D}, Pu t d → ∃ p, (∀ M, PD M d p) ∧ PG t p
  | _, _, .int i => ⟨_, fun _ => .int i, by simp [PyData.canLay0], by simp [PyData.depth]⟩
  | _, _, .non => ⟨_, fun _ => .non, by simp [PyData.canLay0], by simp [PyData.depth]⟩
  | _, _, .str h => ⟨_, fun _ => .str _, by simp [PyData.canLay0, h], by simp [PyData.depth]⟩
  | _, _, .tup (t := t) (xs := xs) h => by
    obtain ⟨ps, h1, h2, h3⟩ := pu_list (t := t) (xs := xs) fun x hx => Pu.pd (h x hx)
    exact ⟨.tuple ps, fun M => .tup (h1 M), by simpa [PyData.canLay0] using h2, by simp [PyData.depth]; omega⟩
theorem PG.shaped {t : Nat} {p : PyData} (h : PG t p) (ht : t ≤ 60) : SeqAt.shaped p = true := by
  have := h.dep
  simp [SeqAt.shaped, h.lay]
  omega
theorem eqv_list {M : Mem} {t : Nat} : ∀ {xs ys : List D} {ps qs : List PyData}, (∀ x ∈ xs, ∀ y ∈ ys, ∀ p q, PD M x p → PD M y q → (PyData.eqv p q = true ↔ x = y)) → PDL M xs ps → PDL M ys qs → (PyData.eqvAll ps qs = true ↔ xs = ys)
  | [], [], _, _, _, .nil, .nil => by simp [PyData.eqvAll]
  | [], _ :: _, _, _, _, .nil, .cons _ _ => by simp [PyData.eqvAll]
  | _ :: _, [], _, _, _, .cons _ _, .nil => by simp [PyData.eqvAll]
  | x :: xs, y :: ys, _, _, h, .cons a l, .cons b m => by
    have h1 := h x (by simp) y (by simp) _ _ a b
    have h2 := eqv_list (t := t) (xs := xs) (ys := ys) (fun u hu v hv => h u (by simp [hu]) v (by simp [hv])) l m
    simp only [PyData.eqvAll, Bool.and_eq_true, h1, h2, List.cons.injEq]
theorem Pu.eqv {M : Mem} : ∀ {t t' : Nat} {d e : D} {p q : PyData}, Pu t d → Pu t' e → PD M d p → PD M e q → (PyData.eqv p q = true ↔ d = e)
  | _, _, _, _, _, _, .int i, .int j, .int _, .int _ => by simp [PyData.eqv]
  | _, _, _, _, _, _, .int i, .non, .int _, .non => by simp [PyData.eqv]
  | _, _, _, _, _, _, .int i, .str _, .int _, .str _ => by simp [PyData.eqv]
  | _, _, _, _, _, _, .int i, .tup _, .int _, .tup _ => by simp [PyData.eqv]
  | _, _, _, _, _, _, .non, .int _, .non, .int _ => by simp [PyData.eqv]
  | _, _, _, _, _, _, .non, .non, .non, .non => by simp [PyData.eqv]
  | _, _, _, _, _, _, .non, .str _, .non, .str _ => by simp [PyData.eqv]
  | _, _, _, _, _, _, .non, .tup _, .non, .tup _ => by simp [PyData.eqv]
  | _, _, _, _, _, _, .str _, .int _, .str _, .int _ => by simp [PyData.eqv]
  | _, _, _, _, _, _, .str _, .non, .str _, .non => by simp [PyData.eqv]
  | _, _, _, _, _, _, .str _, .str _, .str _, .str _ => by simp [PyData.eqv]
  | _, _, _, _, _, _, .str _, .tup _, .str _, .tup _ => by simp [PyData.eqv]
  | _, _, _, _, _, _, .tup _, .int _, .tup _, .int _ => by simp [PyData.eqv]
  | _, _, _, _, _, _, .tup _, .non, .tup _, .non => by simp [PyData.eqv]
  | _, _, _, _, _, _, .tup _, .str _, .tup _, .str _ => by simp [PyData.eqv]
  | _, _, _, _, _, _, .tup (t := t) hx, .tup hy, .tup l, .tup m => by
    have := eqv_list (M := M) (t := t) (fun x h1 y h2 p q a b => Pu.eqv (hx x h1) (hy y h2) a b) l m
    simp only [PyData.eqv, this, D.tup.injEq]
theorem pt2_inj {p q : Int × Int} (h : pt2 p = pt2 q) : p = q := by
  unfold pt2 at h
  simp at h
  exact Prod.ext h.1 h.2
/-! comprehensions: each answer fits its item -/
def All2 {α β : Type} (P : α → β → Prop) : List α → List β → Prop
  | [], [] => True
  | x :: xs, y :: ys => P x y ∧ All2 P xs ys
  | _, _ => False
section
variable {α β : Type} {P : α → β → Prop}
theorem All2.len : ∀ {xs : List α} {ys : List β}, All2 P xs ys → ys.length = xs.length
  | [], [], _ => rfl
  | _ :: _, _ :: _, h => by simp [All2.len h.2]
  | [], _ :: _, h => h.elim
  | _ :: _, [], h => h.elim
theorem All2.snoc : ∀ {xs : List α} {ys : List β} {x : α} {y : β}, All2 P xs ys → P x y → All2 P (xs ++ [x]) (ys ++ [y])
  | [], [], _, _, _, h => ⟨h, trivial⟩
  | _ :: _, _ :: _, _, _, h, g => ⟨h.1, All2.snoc h.2 g⟩
  | [], _ :: _, _, _, h, _ => h.elim
  | _ :: _, [], _, _, h, _ => h.elim
theorem All2.get : ∀ {xs : List α} {ys : List β} {i : Nat} {x : α} {y : β}, All2 P xs ys → xs[i]? = some x → ys[i]? = some y → P x y
  | _ :: _, _ :: _, 0, _, _, h, e, e' => by simp at e e'; subst e; subst e'; exact h.1
  | _ :: _, _ :: _, i + 1, _, _, h, e, e' => All2.get (i := i) h.2 (by simpa using e) (by simpa using e')
  | [], [], _, _, _, _, e, _ => by simp at e
  | [], _ :: _, _, _, _, h, _, _ => h.elim
  | _ :: _, [], _, _, _, h, _, _ => h.elim
theorem All2.right : ∀ {xs : List α} {ys : List β} {y : β}, All2 P xs ys → y ∈ ys → ∃ x ∈ xs, P x y
  | _ :: _, _ :: _, _, h, e => by
    rcases List.mem_cons.mp e with rfl | e
    · exact ⟨_, List.mem_cons_self, h.1⟩
    · obtain ⟨x, hx, p⟩ := All2.right h.2 e
      exact ⟨x, List.mem_cons_of_mem _ hx, p⟩
  | [], _ :: _, _, h, _ => h.elim
theorem All2.left : ∀ {xs : List α} {ys : List β} {x : α}, All2 P xs ys → x ∈ xs → ∃ y ∈ ys, P x y
  | _ :: _, _ :: _, _, h, e => by
    rcases List.mem_cons.mp e with rfl | e
    · exact ⟨_, List.mem_cons_self, h.1⟩
    · obtain ⟨x, hx, p⟩ := All2.left h.2 e
      exact ⟨x, List.mem_cons_of_mem _ hx, p⟩
  | _ :: _, [], _, h, _ => h.elim
end
theorem rest_rel {G : Gam} {elt : IE} {vs tg : List Nat} {ρ : En} {M : Mem} {Q : Kn} {src : Src} {xs : List D} (P : D → D → Prop) (hs : ∀ M1, Ex M M1 → items M1 src = some xs) (hl : xs.length < 16777216)
    (he : ∀ x ∈ xs, ∀ M1 (R : Kn), Ex M M1 → (∀ y M2, Ex M1 M2 → P x y → R y M2) → tgV tg x (wipesV ρ vs) fun ρ' => wpE G elt ρ' M1 R)
    (q : ∀ acc M1, Ex M M1 → All2 P xs acc → Q (.lst M1.length) (M1 ++ [acc])) : CRest G elt .nil vs tg ρ Q src M := by
  refine ⟨xs, hs M (Ex.refl M), by rw [sz_eq]; exact hl, fun i acc M1 => Ex M M1 ∧ All2 P (xs.take i) acc, ⟨Ex.refl M, trivial⟩, fun i acc M5 hi h => ⟨by rw [h.2.len]; simp <;> omega, hs _ h.1⟩, ?_, ?_⟩
  · rintro i x acc M5 hx ⟨e5, la⟩
    simp only [wpC_nil, if_true]
    refine he x (List.mem_of_getElem? hx) M5 _ e5 fun y M2 e6 hy => ⟨e5.trans e6, ?_⟩
    rw [List.take_add_one, hx]
    exact la.snoc hy
  · rintro acc M5 ⟨e5, la⟩
    rw [List.take_length] at la
    exact q acc M5 e5 la
end DL

set_option Elab.async false
set_option linter.all false
set_option maxRecDepth 100000
set_option maxHeartbeats 4000000
namespace DL
open PySem L2 Hull PyProof PyProof.Rows
-- slots ['rim', 'place', 'way', 'reach', 'x', 'y']
-- slots ['rim', 'place', 'ways', 'wide', 'high', 'way']
-- slots ['rim', 'place', 'marks', 'turns', 'corner', 'k']

/-! normals, side by side -/
theorem sides_in {R : List P} (ne : R ≠ []) : ∀ z ∈ sidesL R, z.1 ∈ R ∧ z.2 ∈ R := by
  intro z hz
  unfold sidesL at hz
  split at hz
  · cases hz
  · obtain ⟨k, hk, rfl⟩ := List.mem_map.mp hz
    have h0 := List.length_pos_iff.mpr ne
    have hk := List.mem_range.mp hk
    have hm : (k + 1) % R.length < R.length := Nat.mod_lt _ h0
    exact ⟨List.mem_of_getElem? (getD_at hk), List.mem_of_getElem? (getD_at hm)⟩
/-! a mark by a rim -/
def scl (u : Int) (p : P) : P := (u * p.1, u * p.2)
def pl2 (m : P3) : P := (m.1, m.2.1)
def HeldM (R : List P) (m : P3) : Prop := Rim (R.map (scl m.2.2) ++ [pl2 m]) (R.map (scl m.2.2))
def tm (a b : P) (m : P3) : Int := (b.1 - a.1) * (m.2.1 - m.2.2 * a.2) - (b.2 - a.2) * (m.1 - m.2.2 * a.1)
theorem cyc_map {f : P → P} {R : List P} (h : 0 < R.length) (k : Nat) : cyc (R.map f) k = f (cyc R k) := by
  have a := cyc_lt (ps := R) (k := k % R.length) (Nat.mod_lt _ h)
  have b := cyc_lt (ps := R.map f) (k := k % R.length) (by rw [List.length_map]; exact Nat.mod_lt _ h)
  rw [List.getElem?_map, a] at b
  simp at b
  have c : cyc (R.map f) (k % R.length) = cyc (R.map f) k := by
    have := cyc_mod (R.map f) k
    rwa [List.length_map] at this
  rw [← c, ← b, cyc_mod]
theorem stretch_lx {a b : P} (r : Rim [a, b] [a, b]) : Lx a b := by
  obtain ⟨x, l, e, _, hm, hc⟩ := r
  simp at e
  obtain ⟨rfl, rfl⟩ := e
  rcases hc with ⟨h, _⟩ | ⟨_, nd, _⟩
  · cases h
  · exact lx_nx (hm b (by simp)) (by simp at nd; exact fun z => nd z.symm)
end DL

set_option Elab.async false
set_option linter.all false
set_option maxRecDepth 100000
set_option maxHeartbeats 4000000
namespace DL
open PySem L2 Hull PyProof PyProof.Rows
theorem at_cyc {R : List P} {k : Nat} (h : k < R.length) : atD (R.map pt2) (k : Int) = some (pt2 (cyc R k)) := by
  rw [atD_nat, List.getElem?_map, cyc_lt h]; rfl
/-- where a mark lies -/
def WhS (R : List P) (m : P3) (s : Str) : Prop := (¬ HeldM R m ∧ s = "out") ∨ (HeldM R m ∧ (R.length < 3 ∨ ∃ k, tm (cyc R k) (cyc R (k + 1)) m = 0) ∧ s = "on") ∨ (HeldM R m ∧ 3 ≤ R.length ∧ (∀ k, tm (cyc R k) (cyc R (k + 1)) m ≠ 0) ∧ s = "in")
theorem WhS.uniq {R : List P} {m : P3} {s s' : Str} (h : WhS R m s) (h' : WhS R m s') : s = s' := by
  rcases h with ⟨a, rfl⟩ | ⟨a, b, rfl⟩ | ⟨a, b, c, rfl⟩ <;> rcases h' with ⟨a', rfl⟩ | ⟨a', b', rfl⟩ | ⟨a', b', c', rfl⟩ <;> first | rfl | exact absurd a' a | exact absurd a a' | skip
  · rcases b with b | ⟨k, b⟩
    · omega
    · exact absurd b (c' k)
  · rcases b' with b' | ⟨k, b'⟩
    · omega
    · exact absurd b' (c k)
theorem rngD_mem {n : Nat} {x : D} (h : x ∈ rngD 0 n) : ∃ i : Nat, i < n ∧ x = .int (i : Int) := by
  obtain ⟨i, hi⟩ := List.mem_iff_getElem?.mp h
  rw [rngD_get] at hi
  split at hi
  · rename_i g
    simp at hi
    exact ⟨i, g, hi.symm⟩
  · cases hi
end DL

set_option Elab.async false
set_option linter.all false
set_option maxRecDepth 100000
set_option maxHeartbeats 4000000
namespace DL
open PySem L2 Hull PyProof PyProof.Rows
-- slots ['_law_feed_here', '_law_rim', '_law_most', '_law_many', '_law_places', '_law_k', '_law_left', '_law_far_here', '_law_wide', '_law_lots', '_law_shared_here', '_law_lot', '_law_place', '_law_x', '_law_y']
-- slots ['_law_rim', '_law_lots', '_law_x', '_law_y', '_law_lot', '_law_place']

/-! rims made greater -/
/-! places by lots -/
end DL

set_option Elab.async false
set_option linter.all false
set_option maxRecDepth 100000
set_option maxHeartbeats 4000000
namespace DL
open PySem L2 Hull PyProof PyProof.Rows
/-! marks, fractions, likeness of the law's own (as in k44's) -/
-- slots ['_law_top', '_law_bottom', '_law_one', '_law_other']
-- slots ['_law_x', '_law_y', '_law_under', '_law_one', '_law_other', '_law_more']
-- slots ['_law_told', '_law_due', '_law_both', '_law_one', '_law_other']
end DL

set_option Elab.async false
set_option linter.all false
set_option maxRecDepth 100000
set_option maxHeartbeats 4000000
namespace DL
open PySem L2 Hull PyProof PyProof.Rows
def gl (c : Nat) (l : List Int) : Nat := l.foldl (fun g z => Nat.gcd g z.natAbs) c
theorem Low3.pos' {p : P3} (h : Low3 p.1 p.2.1 p.2.2) : 0 < p.2.2 := h.pos
end DL

set_option Elab.async false
set_option linter.all false
set_option maxRecDepth 100000
set_option maxHeartbeats 4000000
set_option exponentiation.threshold 3000
namespace DL
open PySem L2 Hull PyProof PyProof.Rows
/-! sums of rims: steps by turn, merged, walked -/
def ad (a b : P) : P := (a.1 + b.1, a.2 + b.2)
def smP : List P → P
  | [] => (0, 0)
  | c :: r => ad c (smP r)
theorem ad_zero (a : P) : ad a (0, 0) = a := by unfold ad; simp
theorem zero_ad (a : P) : ad (0, 0) a = a := by unfold ad; simp
theorem ad_assoc (a b c : P) : ad (ad a b) c = ad a (ad b c) := by unfold ad; simp only [Prod.mk.injEq]; omega
theorem ad_comm (a b : P) : ad a b = ad b a := by unfold ad; simp only [Prod.mk.injEq]; omega
theorem smP_app : ∀ A B : List P, smP (A ++ B) = ad (smP A) (smP B)
  | [], B => (zero_ad _).symm
  | a :: A, B => by rw [List.cons_append, smP, smP_app A B, smP, ad_assoc]
theorem cr_ad (c u v : P) : cr c (ad u v) = cr c u + cr c v := by unfold cr ad; grind
theorem cr_zero (c : P) : cr c (0, 0) = 0 := by unfold cr; simp
theorem gt0_lp {c : P} : gt0 c = true ↔ LP c := by
  unfold gt0 LP
  rw [decide_eq_true_eq]
  omega
theorem gt0_ln {c : P} (nz : c ≠ (0, 0)) : gt0 c = false ↔ LP (neg c) := by
  have : c.1 ≠ 0 ∨ c.2 ≠ 0 := ne_or (a := c) (b := (0, 0)) nz
  unfold gt0 LP neg
  rw [decide_eq_false_iff_not]
  simp only
  omega
theorem caS_iff {a b : P} : caS a b = true ↔ (gt0 a = true ∧ gt0 b = false) ∨ (gt0 a = gt0 b ∧ 0 < cr a b) := by
  unfold caS
  by_cases e : gt0 a = gt0 b
  · rw [if_pos e, decide_eq_true_eq]
    constructor
    · intro h; exact .inr ⟨e, h⟩
    · rintro (⟨h1, h2⟩ | ⟨_, h⟩)
      · rw [e, h2] at h1; cases h1
      · exact h
  · rw [if_neg e]
    constructor
    · intro h
      refine .inl ⟨h, ?_⟩
      cases hb : gt0 b with
      | false => rfl
      | true => rw [h, hb] at e; exact (e rfl).elim
    · rintro (⟨h1, _⟩ | ⟨h, _⟩)
      · exact h1
      · exact (e h).elim
def Cc (c u v : P) : Prop := cr c u ≤ 0 → cr c v < 0
theorem cy1 {c u v : P} (nu : u ≠ (0, 0)) (nv : v ≠ (0, 0)) (h1 : caS c u = true) (h2 : caS u v = true) : Cc c u v := fun h => by
  rcases caS_iff.mp h1 with ⟨a, b⟩ | ⟨_, b⟩
  · rcases caS_iff.mp h2 with ⟨a', _⟩ | ⟨a', b'⟩
    · rw [b] at a'; cases a'
    · rw [b] at a'
      have := LP.trans (gt0_lp.mp a) ((gt0_ln nu).mp b) ((gt0_ln nv).mp a'.symm) (by rw [cr_negr]; omega) (by rw [Hull.cr_neg]; omega) (.inr (by rw [Hull.cr_neg]; omega))
      rw [cr_negr] at this
      omega
  · omega
theorem cy2 {c u v : P} (h1 : caS v c = true) (h2 : caS c u = true) : Cc c u v := fun h => by
  rcases caS_iff.mp h2 with ⟨a, b⟩ | ⟨_, b⟩
  · rcases caS_iff.mp h1 with ⟨_, b'⟩ | ⟨_, b'⟩
    · rw [a] at b'; cases b'
    · rw [cr_sw] at b'; omega
  · omega
theorem cy3 {c u v : P} (nc : c ≠ (0, 0)) (h1 : caS u v = true) (h2 : caS v c = true) : Cc c u v := fun h => by
  rcases caS_iff.mp h2 with ⟨a, b⟩ | ⟨_, b⟩
  · rcases caS_iff.mp h1 with ⟨_, b'⟩ | ⟨a', b'⟩
    · rw [a] at b'; cases b'
    · rw [a] at a'
      have := LP.trans ((gt0_ln nc).mp b) (gt0_lp.mp a') (gt0_lp.mp a) (by rw [cr_negl]; omega) (by omega) (.inr b')
      rw [cr_negl] at this
      omega
  · rw [cr_sw] at b; omega
/-- parts of a round -/
theorem parts {c : P} {L1 L2 : List P} (pw : (L1 ++ L2).Pairwise (Cc c)) (tot : cr c (smP (L1 ++ L2)) = 0) : 0 ≤ cr c (smP L1) ∧ (cr c (smP L1) = 0 → L1 = [] ∨ L2 = []) := by
  rw [smP_app, cr_ad] at tot
  have neg_of : ∀ L : List P, (∀ v ∈ L, cr c v < 0) → L ≠ [] → cr c (smP L) < 0 := by
    intro L
    induction L with
    | nil => intro _ h; exact (h rfl).elim
    | cons a L ih =>
      intro h _
      rw [smP, cr_ad]
      have := h a (by simp)
      by_cases e : L = []
      · subst e; rw [smP, cr_zero]; omega
      · have := ih (fun v hv => h v (by simp [hv])) e; omega
  have pos_of' : ∀ L : List P, (∀ v ∈ L, 0 < cr c v) → L ≠ [] → 0 < cr c (smP L) := by
    intro L
    induction L with
    | nil => intro _ h; exact (h rfl).elim
    | cons a L ih =>
      intro h _
      rw [smP, cr_ad]
      have := h a (by simp)
      by_cases e : L = []
      · subst e; rw [smP, cr_zero]; omega
      · have := ih (fun v hv => h v (by simp [hv])) e; omega
  by_cases h : ∃ u ∈ L1, cr c u ≤ 0
  · obtain ⟨u, hu, hc⟩ := h
    by_cases e : L2 = []
    · subst e
      rw [smP, cr_zero] at tot
      exact ⟨by omega, fun _ => .inr rfl⟩
    · have := neg_of L2 (fun v hv => (List.pairwise_append.mp pw).2.2 u hu v hv hc) e
      exact ⟨by omega, fun z => by omega⟩
  · by_cases e : L1 = []
    · subst e
      exact ⟨by rw [smP, cr_zero]; omega, fun _ => .inl rfl⟩
    · have := pos_of' L1 (fun v hv => by
        rcases Int.lt_or_le 0 (cr c v) with h' | h'
        · exact h'
        · exact (h ⟨v, hv, h'⟩).elim) e
      exact ⟨by omega, fun z => by omega⟩
/-- steps by turn, none nought -/
def Trn (C : List P) : Prop := C.Pairwise (fun a b => caS a b = true) ∧ ∀ c ∈ C, c ≠ (0, 0)
theorem Trn.round {c : P} {C1 C2 : List P} (t : Trn (C1 ++ c :: C2)) : (C2 ++ C1).Pairwise (Cc c) := by
  obtain ⟨pw, nz⟩ := t
  obtain ⟨p1, p2, p12⟩ := List.pairwise_append.mp pw
  obtain ⟨p3, p4⟩ := List.pairwise_cons.mp p2
  have nz2 : ∀ u ∈ C2, u ≠ (0, 0) := fun u hu => nz u (by simp [hu])
  refine List.pairwise_append.mpr ⟨p4.imp_of_mem fun {u v} hu hv h => cy1 (nz2 u hu) (nz2 v hv) (p3 u hu) h, p1.imp_of_mem fun {u v} hu hv h => cy3 (nz c (by simp)) h (p12 v hv c (by simp)), fun u hu v hv => cy2 (p12 v hv c (by simp)) (p3 u hu)⟩
theorem turn_sum {c : P} {C1 C2 L1 L2 : List P} (t : Trn (C1 ++ c :: C2)) (z : smP (C1 ++ c :: C2) = (0, 0)) (e : C2 ++ C1 = L1 ++ L2) : 0 ≤ cr c (smP L1) ∧ (cr c (smP L1) = 0 → L1 = [] ∨ L2 = []) := by
  refine parts (by rw [← e]; exact t.round) ?_
  rw [← e]
  rw [smP_app, smP] at z
  have h1 := congrArg Prod.fst z
  have h2 := congrArg Prod.snd z
  rw [smP_app]
  unfold ad at *
  unfold cr
  simp only at *
  have e1 : (smP C2).1 + (smP C1).1 = - c.1 := by omega
  have e2 : (smP C2).2 + (smP C1).2 = - c.2 := by omega
  rw [e1, e2, Int.mul_neg, Int.mul_neg, Int.mul_comm c.2 c.1]
  omega
/-- the places of a walk by steps, the last step's end left out -/
def ptl : P → List P → List P
  | _, [] => []
  | s, c :: C => s :: ptl (ad s c) C
theorem ptl_len : ∀ (C : List P) (s : P), (ptl s C).length = C.length
  | [], _ => rfl
  | c :: C, s => by simp [ptl, ptl_len C (ad s c)]
theorem ptl_mem {t : P} : ∀ {C : List P} {s : P}, t ∈ ptl s C → ∃ P1 d P2, C = P1 ++ d :: P2 ∧ t = ad s (smP P1)
  | c :: C, s, h => by
    rcases List.mem_cons.mp h with rfl | h
    · exact ⟨[], c, C, rfl, (ad_zero _).symm⟩
    · obtain ⟨P1, d, P2, rfl, rfl⟩ := ptl_mem h
      exact ⟨c :: P1, d, P2, rfl, by rw [smP, ad_assoc]⟩
theorem ptl_in : ∀ {P1 : List P} {d : P} {P2 : List P} {s : P}, ad s (smP P1) ∈ ptl s (P1 ++ d :: P2)
  | [], d, P2, s => by rw [smP, ad_zero]; simp [ptl]
  | c :: P1, d, P2, s => by
    have := ptl_in (P1 := P1) (d := d) (P2 := P2) (s := ad s c)
    rw [List.cons_append, ptl, smP, ← ad_assoc]
    exact List.mem_cons_of_mem _ this
theorem ed_ptl {r : P → P → Prop} : ∀ {C : List P} {s : P}, (∀ C1 c C2, C = C1 ++ c :: C2 → r (ad s (smP C1)) (ad (ad s (smP C1)) c)) → Ed r (ptl s C ++ [ad s (smP C)])
  | [], s, _ => trivial
  | [c], s, h => by
    have := h [] c [] rfl
    rw [smP, ad_zero] at this
    simp only [ptl, smP, ad_zero, List.cons_append, List.nil_append]
    exact ⟨this, trivial⟩
  | c :: d :: C, s, h => by
    have h0 := h [] c (d :: C) rfl
    rw [smP, ad_zero] at h0
    have ih := ed_ptl (C := d :: C) (s := ad s c) fun C1 e C2 q => by
      have := h (c :: C1) e C2 (by rw [q]; rfl)
      rw [smP, ← ad_assoc] at this
      exact this
    rw [ptl, List.cons_append, smP, ← ad_assoc]
    exact ⟨h0, ih⟩
theorem ptl_nodup : ∀ {C : List P} {s : P}, (∀ C1 c Q1 d Q2, C = C1 ++ c :: (Q1 ++ d :: Q2) → ad c (smP Q1) ≠ (0, 0)) → (ptl s C).Nodup
  | [], s, _ => List.nodup_nil
  | c :: C, s, h => by
    rw [ptl]
    refine List.nodup_cons.mpr ⟨fun hm => ?_, ptl_nodup fun C1 c' Q1 d Q2 e => h (c :: C1) c' Q1 d Q2 (by rw [e]; rfl)⟩
    obtain ⟨Q1, d, Q2, e, e2⟩ := ptl_mem hm
    refine h [] c Q1 d Q2 (by rw [e]; rfl) ?_
    have h1 := congrArg Prod.fst e2
    have h2 := congrArg Prod.snd e2
    unfold ad at *
    simp only at *
    exact Prod.ext (by simp only; omega) (by simp only; omega)
theorem lp_ad {a b : P} (h : LP a) (h' : LP b) : LP (ad a b) := by unfold LP ad at *; simp only; omega
theorem lp_sum : ∀ {L : List P}, (∀ c ∈ L, LP c) → L = [] ∨ LP (smP L)
  | [], _ => .inl rfl
  | c :: L, h => by
    rcases lp_sum (L := L) fun d hd => h d (by simp [hd]) with rfl | h'
    · exact .inr (by rw [smP, smP, ad_zero]; exact h c (by simp))
    · exact .inr (lp_ad (h c (by simp)) h')
theorem smP_neg : ∀ L : List P, smP (L.map neg) = neg (smP L)
  | [] => rfl
  | c :: L => by
    rw [List.map_cons, smP, smP, smP_neg L]
    unfold ad neg
    simp only [Prod.mk.injEq]; omega
/-- the walk of steps by turn that comes back is a rim -/
theorem walk_rim {C : List P} {s : P} (t : Trn C) (z : smP C = (0, 0)) (ne : C ≠ []) : Rim (ptl s C) (ptl s C) := by
  obtain ⟨c0, C0, rfl⟩ : ∃ c0 C0, C = c0 :: C0 := by
    cases C with
    | nil => exact (ne rfl).elim
    | cons a b => exact ⟨a, b, rfl⟩
  have C0ne : C0 ≠ [] := fun h => by
    subst h
    rw [smP, smP, ad_zero] at z
    exact t.2 c0 (by simp) z
  have hs : ad s (smP (c0 :: C0)) = s := by rw [z, ad_zero]
  have split : ∀ {C1 : List P} {c : P} {C2 : List P}, c0 :: C0 = C1 ++ c :: C2 → Trn (C1 ++ c :: C2) ∧ smP (C1 ++ c :: C2) = (0, 0) := fun e => by rw [← e]; exact ⟨t, z⟩
  -- a place seen from a step
  have seen : ∀ {C1 : List P} {c : P} {C2 : List P}, c0 :: C0 = C1 ++ c :: C2 → ∀ x ∈ ptl s (c0 :: C0), ∃ L1 L2, C2 ++ C1 = L1 ++ L2 ∧ x = ad (ad (ad s (smP C1)) c) (smP L1) ∧ (L2 = [] → x = ad s (smP C1)) := by
    intro C1 c C2 e x hx
    obtain ⟨P1, d, P2, e2, rfl⟩ := ptl_mem hx
    have ee : P1 ++ d :: P2 = C1 ++ c :: C2 := by rw [← e2, e]
    have hz := (split e).2
    rw [smP_app, smP] at hz
    rcases List.append_eq_append_iff.mp ee with ⟨a', h1, h2⟩ | ⟨a', h1, h2⟩
    · -- P1 is short: C1 = P1 ++ a'
      subst h1
      refine ⟨C2 ++ P1, a', by simp, ?_, fun h => by subst h; simp⟩
      have q1 := congrArg Prod.fst hz
      have q2 := congrArg Prod.snd hz
      rw [smP_app] at q1 q2 ⊢
      rw [smP_app]
      unfold ad at *
      simp only at *
      exact Prod.ext (by simp only; omega) (by simp only; omega)
    · -- P1 = C1 ++ a'
      subst h1
      cases a' with
      | nil =>
        simp only [List.nil_append, List.append_nil] at h2 ⊢
        obtain ⟨rfl, rfl⟩ := List.cons.inj h2
        refine ⟨C2 ++ C1, [], by simp, ?_, by simp⟩
        have q1 := congrArg Prod.fst hz
        have q2 := congrArg Prod.snd hz
        rw [smP_app]
        unfold ad at *
        simp only at *
        exact Prod.ext (by simp only; omega) (by simp only; omega)
      | cons a a'' =>
        rw [List.cons_append] at h2
        obtain ⟨rfl, h3⟩ := List.cons.inj h2
        refine ⟨a'', d :: P2 ++ C1, by rw [h3]; simp, by rw [smP_app, smP, ← ad_assoc, ← ad_assoc], fun h => by simp at h⟩
  refine ⟨s, ptl (ad s c0) C0, rfl, by simp [ptl], ?_, .inr ⟨?_, ?_, ?_⟩⟩
  · -- the least
    intro x hx hl
    obtain ⟨P1, d, P2, e, rfl⟩ := ptl_mem hx
    have tt := t
    rw [e] at tt
    obtain ⟨pw, nz⟩ := tt
    obtain ⟨p1, p2, p12⟩ := List.pairwise_append.mp pw
    obtain ⟨p3, p4⟩ := List.pairwise_cons.mp p2
    have pos : P1 = [] ∨ LP (smP P1) := by
      cases hd : gt0 d with
      | true =>
        refine lp_sum fun c hc => gt0_lp.mp ?_
        rcases caS_iff.mp (p12 c hc d (by simp)) with ⟨a, b⟩ | ⟨a, b⟩
        · exact a
        · rw [a]; exact hd
      | false =>
        right
        have h2 : LP (neg (smP (d :: P2))) := by
          rw [← smP_neg]
          refine (lp_sum (L := (d :: P2).map neg) fun c hc => ?_).resolve_left (by simp)
          obtain ⟨c', hc', rfl⟩ := List.mem_map.mp hc
          refine (gt0_ln (nz c' (by rw [List.mem_append]; exact .inr hc'))).mp ?_
          rcases List.mem_cons.mp hc' with rfl | hc'
          · exact hd
          · rcases caS_iff.mp (p3 c' hc') with ⟨a, b⟩ | ⟨a, b⟩
            · exact b
            · rw [← a]; exact hd
        have hz := z
        rw [e, smP_app] at hz
        have q1 := congrArg Prod.fst hz
        have q2 := congrArg Prod.snd hz
        unfold ad at q1 q2
        unfold LP neg at h2
        unfold LP
        simp only at *
        omega
    rcases pos with rfl | pos
    · rw [smP, ad_zero] at hl
      exact lx_irr _ hl
    · unfold LP at pos
      unfold Lx ad at hl
      simp only at hl
      omega
  · intro h
    have := congrArg List.length h
    rw [ptl_len] at this
    exact C0ne (List.length_eq_zero_iff.mp this)
  · refine ptl_nodup (C := c0 :: C0) fun C1 c Q1 d Q2 e h => ?_
    obtain ⟨tt, zz⟩ := split e
    have := turn_sum (L1 := Q1) (L2 := d :: Q2 ++ C1) tt zz (by simp)
    have hc : cr c (smP Q1) = 0 := by
      have q1 := congrArg Prod.fst h
      have q2 := congrArg Prod.snd h
      unfold ad at q1 q2
      unfold cr
      simp only at *
      have e1 : (smP Q1).1 = - c.1 := by omega
      have e2 : (smP Q1).2 = - c.2 := by omega
      rw [e1, e2, Int.mul_neg, Int.mul_neg, Int.mul_comm c.2 c.1]
      omega
    rcases this.2 hc with h' | h'
    · subst h'
      rw [smP, ad_zero] at h
      exact tt.2 c (by simp) h
    · simp at h'
  · have e1 : s :: (ptl (ad s c0) C0 ++ [s]) = ptl s (c0 :: C0) ++ [ad s (smP (c0 :: C0))] := by rw [hs]; rfl
    rw [e1]
    refine ed_ptl fun C1 c C2 e => ?_
    obtain ⟨tt, zz⟩ := split e
    have nc := tt.2 c (by simp)
    refine ⟨fun h => ?_, ?_, fun x hx => ?_⟩
    · apply nc
      have q1 := congrArg Prod.fst h
      have q2 := congrArg Prod.snd h
      unfold ad at q1 q2
      simp only at q1 q2
      exact Prod.ext (by simp only; omega) (by simp only; omega)
    · cases C2 with
      | nil =>
        have : ad (ad s (smP C1)) c = s := by
          rw [smP_app, smP, smP, ad_zero] at zz
          rw [ad_assoc, zz, ad_zero]
        rw [this]
        simp [ptl]
      | cons d C2 =>
        have := ptl_in (P1 := C1 ++ [c]) (d := d) (P2 := C2) (s := s)
        rw [smP_app, smP, smP, ad_zero, ← ad_assoc] at this
        rw [e]
        simpa using this
    · obtain ⟨L1, L2, e2, ex, last⟩ := seen e x hx
      have ts := turn_sum tt zz e2
      have et : tn (ad s (smP C1)) (ad (ad s (smP C1)) c) x = cr c (smP L1) := by
        rw [ex]
        unfold tn cr ad
        simp only
        grind
      rw [et]
      rcases Int.lt_or_eq_of_le ts.1 with h | h
      · exact .inl h
      · refine .inr ⟨h.symm, ?_⟩
        rcases ts.2 h.symm with h' | h'
        · subst h'
          rw [ex, smP, ad_zero]
          exact bt_r
        · rw [last h']
          exact bt_l
/-! the steps of a rim -/
def stc (R : List P) (k : Nat) : P := sb (cyc R (k + 1)) (cyc R k)
def stepsL (R : List P) : List P := (sidesL R).map stpP
theorem steps_cyc {R : List P} (h : R.length ≠ 1) : stepsL R = (List.range R.length).map (stc R) := by
  unfold stepsL sidesL
  rw [if_neg h, List.map_map]
  refine List.map_congr_left fun k hk => ?_
  have hk := List.mem_range.mp hk
  show stpP (R.getD k (0, 0), R.getD ((k + 1) % R.length) (0, 0)) = _
  unfold stc cyc
  rw [Nat.mod_eq_of_lt hk]
  rfl
theorem tele (R : List P) : ∀ n, smP ((List.range n).map (stc R)) = sb (cyc R n) (cyc R 0)
  | 0 => by unfold sb; simp [smP]
  | n + 1 => by
    rw [List.range_succ, List.map_append, smP_app, tele R n]
    simp only [List.map_cons, List.map_nil, smP, ad_zero]
    unfold ad stc sb
    simp only [Prod.mk.injEq]; omega
theorem rim_two {R : List P} (r : Rim R R) (h : R.length = 2) : ∃ a b, R = [a, b] ∧ Lx a b := by
  match R, h with
  | [a, b], _ => exact ⟨a, b, rfl, stretch_lx r⟩
theorem rim_steps {R : List P} (r : Rim R R) : Trn (stepsL R) ∧ smP (stepsL R) = (0, 0) := by
  have ne := rim_ne r
  have l0 := List.length_pos_iff.mpr ne
  by_cases h1 : R.length = 1
  · have : stepsL R = [] := by unfold stepsL sidesL; rw [if_pos h1]; rfl
    rw [this]
    exact ⟨⟨List.Pairwise.nil, fun _ h => by cases h⟩, rfl⟩
  · refine ⟨⟨?_, ?_⟩, ?_⟩
    · rw [steps_cyc h1]
      by_cases h2 : R.length = 2
      · obtain ⟨a, b, rfl, l⟩ := rim_two r h2
        have e : (List.range [a, b].length).map (stc [a, b]) = [sb b a, sb a b] := by simp [List.range_succ, stc, cyc]
        rw [e]
        refine List.pairwise_cons.mpr ⟨fun x hx => ?_, List.pairwise_singleton _ _⟩
        rw [List.mem_singleton.mp hx]
        refine caS_iff.mpr (.inl ⟨gt0_lp.mpr (lx_lp.mp l), (gt0_ln (sb_ne (Ne.symm (lx_ne l)))).mpr ?_⟩)
        rw [sb_neg]
        exact lx_lp.mp l
      · obtain ⟨⟨t, w⟩, lf⟩ := rim_walk r (by omega)
        refine List.pairwise_map.mpr (List.Pairwise.imp_of_mem (fun {i j} hi hj hij => ?_) List.pairwise_lt_range)
        have hi := List.mem_range.mp hi
        have hj := List.mem_range.mp hj
        have up : ∀ k, k < t → gt0 (stc R k) = true := fun k hk => gt0_lp.mpr (lx_lp.mp (w.up k hk))
        have dn : ∀ k, t ≤ k → k < R.length → gt0 (stc R k) = false := fun k h h' => by
          refine (gt0_ln (sb_ne (w.ne h'))).mpr ?_
          rw [sb_neg]
          exact lx_lp.mp (w.dn k h h')
        rcases Nat.lt_or_ge j t with h | h
        · exact caS_iff.mpr (.inr ⟨by rw [up i (by omega), up j h], w.up_cr i j hij h⟩)
        · rcases Nat.lt_or_ge i t with h' | h'
          · exact caS_iff.mpr (.inl ⟨up i h', dn j h hj⟩)
          · exact caS_iff.mpr (.inr ⟨by rw [dn i h' hi, dn j h hj], w.dn_cr i h' j hij hj⟩)
    · intro c hc
      obtain ⟨z, hz, rfl⟩ := List.mem_map.mp hc
      exact sb_ne (sides_nx r z hz).2.2.1
    · rw [steps_cyc h1, tele]
      have : cyc R R.length = cyc R 0 := by have := cyc_per R 0; rwa [Nat.zero_add] at this
      rw [this]
      unfold sb; simp
/-! merging -/
def mgS : List P → List P → List P
  | [], B => B
  | x :: A, [] => x :: A
  | x :: A, y :: B => if caS y x = true then y :: mgS (x :: A) B else if caS x y = true then x :: mgS A (y :: B) else ad x y :: mgS A B
termination_by A B => A.length + B.length
theorem lp_or {x : P} (nx : x ≠ (0, 0)) : (gt0 x = true ∧ LP x) ∨ (gt0 x = false ∧ LP (neg x)) := by
  cases h : gt0 x with
  | true => exact .inl ⟨rfl, gt0_lp.mp h⟩
  | false => exact .inr ⟨rfl, (gt0_ln nx).mp h⟩
theorem neg_ad (x y : P) : neg (ad x y) = ad (neg x) (neg y) := by unfold neg ad; simp only [Prod.mk.injEq]; omega
structure Tie (x y : P) : Prop where
  g : gt0 x = gt0 y
  c : cr x y = 0
theorem tie_of {x y : P} (h1 : caS x y = false) (h2 : caS y x = false) : Tie x y := by
  have n1 : ¬ caS x y = true := by rw [h1]; simp
  have n2 : ¬ caS y x = true := by rw [h2]; simp
  rw [caS_iff] at n1 n2
  rw [cr_sw y x] at n2
  have g : gt0 x = gt0 y := by
    cases hx : gt0 x <;> cases hy : gt0 y <;> simp_all
  exact ⟨g, by
    rcases Int.lt_trichotomy (cr x y) 0 with h | h | h
    · exact (n2 (.inr ⟨g.symm, by omega⟩)).elim
    · exact h
    · exact (n1 (.inr ⟨g, h⟩)).elim⟩
theorem Tie.gad {x y : P} (t : Tie x y) (nx : x ≠ (0, 0)) (ny : y ≠ (0, 0)) : gt0 (ad x y) = gt0 x ∧ ad x y ≠ (0, 0) := by
  rcases lp_or nx with ⟨a, b⟩ | ⟨a, b⟩
  · have b' : LP y := gt0_lp.mp (by rw [← t.g]; exact a)
    have := lp_ad b b'
    exact ⟨by rw [a]; exact gt0_lp.mpr this, fun z => by rw [z] at this; unfold LP at this; simp at this⟩
  · have b' : LP (neg y) := (gt0_ln ny).mp (by rw [← t.g]; exact a)
    have := lp_ad b b'
    rw [← neg_ad] at this
    have nz : ad x y ≠ (0, 0) := fun z => by rw [z] at this; unfold LP neg at this; simp at this
    exact ⟨by rw [a]; exact (gt0_ln nz).mpr this, nz⟩
theorem caS_tr {a b c : P} (na : a ≠ (0, 0)) (nb : b ≠ (0, 0)) (nc : c ≠ (0, 0)) (h1 : caS a b = true) (h2 : caS b c = true) : caS a c = true := by
  refine caS_iff.mpr ?_
  rcases caS_iff.mp h1 with ⟨p, q⟩ | ⟨p, q⟩ <;> rcases caS_iff.mp h2 with ⟨p', q'⟩ | ⟨p', q'⟩
  · rw [q] at p'; cases p'
  · exact .inl ⟨p, by rw [← p', q]⟩
  · exact .inl ⟨by rw [p, p'], q'⟩
  · refine .inr ⟨by rw [p, p'], ?_⟩
    rcases lp_or na with ⟨x, y⟩ | ⟨x, y⟩
    · have y2 : LP b := gt0_lp.mp (by rw [← p]; exact x)
      have y3 : LP c := gt0_lp.mp (by rw [← p', ← p]; exact x)
      exact y.trans y2 y3 (by omega) (by omega) (.inl q)
    · have y2 : LP (neg b) := (gt0_ln nb).mp (by rw [← p]; exact x)
      have y3 : LP (neg c) := (gt0_ln nc).mp (by rw [← p', ← p]; exact x)
      have := y.trans y2 y3 (by rw [Hull.cr_neg]; omega) (by rw [Hull.cr_neg]; omega) (.inl (by rw [Hull.cr_neg]; exact q))
      rwa [Hull.cr_neg] at this
theorem Tie.symm {x y : P} (t : Tie x y) : Tie y x := ⟨t.g.symm, by rw [cr_sw, t.c]; rfl⟩
theorem Tie.left {x y a : P} (t : Tie x y) (nx : x ≠ (0, 0)) (ny : y ≠ (0, 0)) (na : a ≠ (0, 0)) (h : caS x a = true) : caS y a = true := by
  refine caS_iff.mpr ?_
  rcases caS_iff.mp h with ⟨p, q⟩ | ⟨p, q⟩
  · exact .inl ⟨by rw [← t.g]; exact p, q⟩
  · refine .inr ⟨by rw [← t.g, p], ?_⟩
    have c := t.symm.c
    rcases lp_or nx with ⟨x1, y1⟩ | ⟨x1, y1⟩
    · have y2 : LP y := gt0_lp.mp (by rw [← t.g]; exact x1)
      have y3 : LP a := gt0_lp.mp (by rw [← p]; exact x1)
      exact y2.trans y1 y3 (by omega) (by omega) (.inr q)
    · have y2 : LP (neg y) := (gt0_ln ny).mp (by rw [← t.g]; exact x1)
      have y3 : LP (neg a) := (gt0_ln na).mp (by rw [← p]; exact x1)
      have := y2.trans y1 y3 (by rw [Hull.cr_neg]; omega) (by rw [Hull.cr_neg]; omega) (.inr (by rw [Hull.cr_neg]; exact q))
      rwa [Hull.cr_neg] at this
theorem cr_adl (u v c : P) : cr (ad u v) c = cr u c + cr v c := by unfold cr ad; grind
theorem Tie.before {x y a : P} (t : Tie x y) (nx : x ≠ (0, 0)) (ny : y ≠ (0, 0)) (na : a ≠ (0, 0)) (h : caS x a = true) : caS (ad x y) a = true := by
  have h2 := t.left nx ny na h
  have g := (t.gad nx ny).1
  refine caS_iff.mpr ?_
  rcases caS_iff.mp h with ⟨p, q⟩ | ⟨p, q⟩
  · exact .inl ⟨by rw [g]; exact p, q⟩
  · refine .inr ⟨by rw [g, p], ?_⟩
    rcases caS_iff.mp h2 with ⟨p', q'⟩ | ⟨p', q'⟩
    · rw [← t.g, p, q'] at p'; cases p'
    · rw [cr_adl]; omega
theorem Tie.behind {x y z : P} (t : Tie x y) (nx : x ≠ (0, 0)) (ny : y ≠ (0, 0)) (h1 : caS z x = true) (h2 : caS z y = true) : caS z (ad x y) = true := by
  have g := (t.gad nx ny).1
  refine caS_iff.mpr ?_
  rcases caS_iff.mp h1 with ⟨p, q⟩ | ⟨p, q⟩
  · exact .inl ⟨p, by rw [g]; exact q⟩
  · refine .inr ⟨by rw [g]; exact p, ?_⟩
    rcases caS_iff.mp h2 with ⟨p', q'⟩ | ⟨p', q'⟩
    · rw [p, t.g, q'] at p'; cases p'
    · rw [cr_ad]; omega
theorem bool_no {b : Bool} (h : ¬ b = true) : b = false := by cases b <;> simp_all
theorem mgS_mem {c : P} : ∀ {A B : List P}, c ∈ mgS A B → c ∈ A ∨ c ∈ B ∨ ∃ x ∈ A, ∃ y ∈ B, c = ad x y ∧ Tie x y
  | [], B, h => by rw [mgS] at h; exact .inr (.inl h)
  | x :: A, [], h => by rw [mgS] at h; exact .inl h
  | x :: A, y :: B, h => by
    rw [mgS] at h
    split at h
    · rcases List.mem_cons.mp h with rfl | h
      · exact .inr (.inl (by simp))
      · rcases mgS_mem h with h | h | ⟨u, hu, v, hv, e, t⟩
        · exact .inl h
        · exact .inr (.inl (by simp [h]))
        · exact .inr (.inr ⟨u, hu, v, by simp [hv], e, t⟩)
    · rename_i n1
      split at h
      · rcases List.mem_cons.mp h with rfl | h
        · exact .inl (by simp)
        · rcases mgS_mem h with h | h | ⟨u, hu, v, hv, e, t⟩
          · exact .inl (by simp [h])
          · exact .inr (.inl h)
          · exact .inr (.inr ⟨u, by simp [hu], v, hv, e, t⟩)
      · rename_i n2
        rcases List.mem_cons.mp h with rfl | h
        · exact .inr (.inr ⟨x, by simp, y, by simp, rfl, tie_of (bool_no n2) (bool_no n1)⟩)
        · rcases mgS_mem h with h | h | ⟨u, hu, v, hv, e, t⟩
          · exact .inl (by simp [h])
          · exact .inr (.inl (by simp [h]))
          · exact .inr (.inr ⟨u, by simp [hu], v, by simp [hv], e, t⟩)
termination_by A B => A.length + B.length
theorem mgS_len : ∀ A B : List P, (mgS A B).length ≤ A.length + B.length
  | [], B => by rw [mgS]; simp
  | x :: A, [] => by rw [mgS]; simp
  | x :: A, y :: B => by
    rw [mgS]
    split
    · have := mgS_len (x :: A) B; simp at this ⊢; omega
    · split
      · have := mgS_len A (y :: B); simp at this ⊢; omega
      · have := mgS_len A B; simp at this ⊢; omega
termination_by A B => A.length + B.length
theorem mgS_lead {z : P} {A B : List P} (nA : ∀ a ∈ A, a ≠ (0, 0)) (nB : ∀ b ∈ B, b ≠ (0, 0)) (hA : ∀ a ∈ A, caS z a = true) (hB : ∀ b ∈ B, caS z b = true) : ∀ c ∈ mgS A B, caS z c = true := fun c hc => by
  rcases mgS_mem hc with h | h | ⟨u, hu, v, hv, rfl, t⟩
  · exact hA c h
  · exact hB c h
  · exact t.behind (nA u hu) (nB v hv) (hA u hu) (hB v hv)
theorem Trn.tail {x : P} {A : List P} (t : Trn (x :: A)) : Trn A := ⟨(List.pairwise_cons.mp t.1).2, fun c hc => t.2 c (by simp [hc])⟩
theorem mgS_trn : ∀ {A B : List P}, Trn A → Trn B → Trn (mgS A B)
  | [], B, _, tB => by rw [mgS]; exact tB
  | x :: A, [], tA, _ => by rw [mgS]; exact tA
  | x :: A, y :: B, tA, tB => by
    have nx := tA.2 x (by simp)
    have ny := tB.2 y (by simp)
    have nA : ∀ a ∈ A, a ≠ (0, 0) := fun a ha => tA.2 a (by simp [ha])
    have nB : ∀ a ∈ B, a ≠ (0, 0) := fun a ha => tB.2 a (by simp [ha])
    have lA := (List.pairwise_cons.mp tA.1).1
    have lB := (List.pairwise_cons.mp tB.1).1
    have mk : ∀ {c : P} {L : List P}, c ≠ (0, 0) → Trn L → (∀ d ∈ L, caS c d = true) → Trn (c :: L) := fun nc t h => ⟨List.pairwise_cons.mpr ⟨h, t.1⟩, fun d hd => by
      rcases List.mem_cons.mp hd with rfl | hd
      · exact nc
      · exact t.2 d hd⟩
    rw [mgS]
    split
    · rename_i c1
      refine mk ny (mgS_trn tA tB.tail) (mgS_lead tA.2 nB (fun a ha => ?_) lB)
      rcases List.mem_cons.mp ha with rfl | ha
      · exact c1
      · exact caS_tr ny nx (nA a ha) c1 (lA a ha)
    · rename_i n1
      split
      · rename_i c2
        refine mk nx (mgS_trn tA.tail tB) (mgS_lead nA tB.2 lA fun a ha => ?_)
        rcases List.mem_cons.mp ha with rfl | ha
        · exact c2
        · exact caS_tr nx ny (nB a ha) c2 (lB a ha)
      · rename_i n2
        have t := tie_of (bool_no n2) (bool_no n1)
        refine mk (t.gad nx ny).2 (mgS_trn tA.tail tB.tail) (mgS_lead nA nB (fun a ha => t.before nx ny (nA a ha) (lA a ha)) fun b hb => ?_)
        have := t.symm.before ny nx (nB b hb) (lB b hb)
        rwa [ad_comm] at this
termination_by A B => A.length + B.length
theorem mgS_sum : ∀ A B : List P, smP (mgS A B) = ad (smP A) (smP B)
  | [], B => by rw [mgS, smP, zero_ad]
  | x :: A, [] => by rw [mgS, smP, smP, ad_zero]
  | x :: A, y :: B => by
    rw [mgS]
    split
    · rw [smP, mgS_sum (x :: A) B, smP, smP]
      unfold ad; simp only [Prod.mk.injEq]; omega
    · split
      · rw [smP, mgS_sum A (y :: B), smP, smP]
        unfold ad; simp only [Prod.mk.injEq]; omega
      · rw [smP, mgS_sum A B, smP, smP]
        unfold ad; simp only [Prod.mk.injEq]; omega
termination_by A B => A.length + B.length
/-- the rim of all sums -/
def sumR (R R' : List P) : List P := if mgS (stepsL R) (stepsL R') = [] then [ad (cyc R 0) (cyc R' 0)] else ptl (ad (cyc R 0) (cyc R' 0)) (mgS (stepsL R) (stepsL R'))
theorem rim_one (a : P) : Rim [a] [a] := ⟨a, [], rfl, by simp, fun s hs => by rw [List.mem_singleton.mp hs]; exact lx_irr a, .inl ⟨rfl, fun s hs => List.mem_singleton.mp hs⟩⟩
theorem sum_rim {R R' : List P} (r : Rim R R) (r' : Rim R' R') : Rim (sumR R R') (sumR R R') := by
  unfold sumR
  split
  · exact rim_one _
  · rename_i ne
    obtain ⟨t, z⟩ := rim_steps r
    obtain ⟨t', z'⟩ := rim_steps r'
    exact walk_rim (mgS_trn t t') (by rw [mgS_sum, z, z']; rfl) ne
end DL

set_option Elab.async false
set_option linter.all false
set_option maxRecDepth 100000
set_option maxHeartbeats 4000000
set_option exponentiation.threshold 3000
namespace DL
open PySem L2 Hull PyProof PyProof.Rows
def S_mergedE : DSpec := fun ds M Q => ∃ (k m t : Nat) (A B : List (Int × Int)), ds = [.lst m, .lst t] ∧ M[m]? = some (A.map pt2) ∧ M[t]? = some (B.map pt2) ∧ A.length < 1000 ∧ B.length < 1000 ∧ k ≤ 900 ∧ (∀ p ∈ A, Sm k p) ∧ (∀ p ∈ B, Sm k p) ∧
  ∀ (l : Nat) (M' : Mem), Ex M M' → M.length ≤ l → M'[l]? = some ((mgS A B).map pt2) → Q (.lst l) M'
theorem mgS_sm {k : Nat} {A B : List P} (sA : ∀ p ∈ A, Sm k p) (sB : ∀ p ∈ B, Sm k p) : ∀ p ∈ mgS A B, Sm (k + 1) p := fun p hp => by
  rcases mgS_mem hp with h | h | ⟨u, hu, v, hv, rfl, t⟩
  · exact (sA p h).up (by omega)
  · exact (sB p h).up (by omega)
  · obtain ⟨u1, u2⟩ := sA u hu
    obtain ⟨v1, v2⟩ := sB v hv
    have ex : 2 ^ (k + 1) = 2 * 2 ^ k := by rw [Nat.pow_succ]; omega
    exact ⟨by unfold ad; simp only; omega, by unfold ad; simp only; omega⟩
def MgE (M : Mem) (m t : Nat) (A B : List (Int × Int)) (w : Nat) (ρ : En) (M' : Mem) : Prop := ∃ (i j : Nat) (F : List (Int × Int)) (a b c d : Option D), ρ = [some (.lst m), some (.lst t), some (.int (i : Int)), some (.int (j : Int)), some (.lst M.length), a, b, c, d] ∧
  M' = M ++ [F.map pt2] ∧ i ≤ A.length ∧ j ≤ B.length ∧ F.length ≤ i + j ∧ F ++ mgS (A.drop i) (B.drop j) = mgS A B ∧ w = (A.length - i) + (B.length - j)
theorem dropC {A : List P} {i : Nat} (h : i < A.length) : A.drop i = A.getD i (0, 0) :: A.drop (i + 1) := by
  rw [List.drop_eq_getElem_cons h]
  congr 1
  rw [List.getD_eq_getElem?_getD, List.getElem?_eq_getElem h]; rfl
theorem mgS_nil (A : List P) : mgS A [] = A := by
  cases A <;> rw [mgS]
theorem merged_okE (G : Gam) (h : G "comes_ahead" = S_caS) : ∀ ds M Q, S_mergedE ds M Q → wpS G ir_merged (bodyE Q) (startD (9 - ds.length) ds) M := by
  rintro ds M Q ⟨k, m, t, A, B, rfl, gA, gB, lA, lB, hk, sA, sB, q⟩
  have gA' : ∀ X : List D, (M ++ [X])[m]? = some (A.map pt2) := fun X => ga_lt gA
  have gB' : ∀ X : List D, (M ++ [X])[t]? = some (B.map pt2) := fun X => ga_lt gB
  simp [ir_merged_1, w_at, startD, ir_merged_2, w_av, sz_eq, ir_merged_3]
  refine w_whl (MgE M m t A B) (m := A.length + B.length) ⟨0, 0, [], none, none, none, none, rfl, by simp, by omega, by omega, by simp, by simp, by simp⟩ ?_
  rintro w ρ M' ⟨i, j, F, a, b, c, d, rfl, rfl, hi, hj, hF, sF, rfl⟩
  simp [gA', gB']
  have stop : i = A.length ∨ j = B.length → wpS G ir_merged_10 (bodyE Q) [some (.lst m), some (.lst t), some (.int (i : Int)), some (.int (j : Int)), some (.lst M.length), a, b, c, d] (M ++ [F.map pt2]) := by
    intro hend
    have gA2 : ∀ X Y : List D, (M ++ [X, Y])[m]? = some (A.map pt2) := fun X Y => by rw [List.getElem?_append_left (lt_of_get gA)]; exact gA
    have gB2 : ∀ X Y Z : List D, (M ++ [X, Y, Z])[t]? = some (B.map pt2) := fun X Y Z => by rw [List.getElem?_append_left (lt_of_get gB)]; exact gB
    have eF : mgS A B = F ++ A.drop i ++ B.drop j := by
      rw [← sF]
      rcases hend with rfl | rfl
      · rw [List.drop_length, mgS]; simp
      · rw [List.drop_length, mgS_nil]; simp
    simp [ir_merged_10, w_ret, gA', sz_eq]
    rw [cut_from (by simpa using hi)]
    refine ⟨by simp; omega, ?_⟩
    simp [gB2, sz_eq]
    rw [cut_from (by simpa using hj)]
    refine ⟨by simp; omega, ?_⟩
    have := q (M.length + 4) (M ++ [F.map pt2, (A.map pt2).drop i, F.map pt2 ++ (A.map pt2).drop i, (B.map pt2).drop j, F.map pt2 ++ ((A.map pt2).drop i ++ (B.map pt2).drop j)]) ⟨_, rfl⟩ (by omega) (by rw [eF]; simp [List.map_drop])
    simpa using this
  by_cases c1 : i < A.length
  · by_cases c2 : j < B.length
    · simp [c1, c2]
      have a1 : atD (A.map pt2) (i : Int) = some (pt2 (A.getD i (0, 0))) := by rw [atD_nat, List.getElem?_map, DL.getD_at c1]; rfl
      have a2 : atD (B.map pt2) (j : Int) = some (pt2 (B.getD j (0, 0))) := by rw [atD_nat, List.getElem?_map, DL.getD_at c2]; rfl
      have m1 : A.getD i (0, 0) ∈ A := List.mem_of_getElem? (DL.getD_at c1)
      have m2 : B.getD j (0, 0) ∈ B := List.mem_of_getElem? (DL.getD_at c2)
      have eA := dropC c1
      have eB := dropC c2
      rw [eA, eB, mgS] at sF
      generalize A.getD i (0, 0) = x at *
      generalize B.getD j (0, 0) = y at *
      have sx := sA x m1
      have sy := sB y m2
      simp [ir_merged_4, w_par, gA', gB', a1, a2, ir_merged_5, w_av, h]
      refine ⟨y, x, rfl, sy.up (by omega), sx.up (by omega), ?_⟩
      simp [ir_merged_6, w_av, h]
      refine ⟨x, y, rfl, sx.up (by omega), sy.up (by omega), ?_⟩
      have nb : ¬ (caS y x = true ∧ caS x y = true) := fun ⟨u, v⟩ => by rw [caS_no u] at v; cases v
      have l0 : lg 0 = 0 := by decide
      have l1 : lg 1 = 0 := by decide
      have lx1 := lg_of sx.1
      have lx2 := lg_of sx.2
      have ly1 := lg_of sy.1
      have ly2 := lg_of sy.2
      have fin : ∀ (f g : Int) (i' j' : Nat), i' ≤ A.length → j' ≤ B.length → F.length + 1 ≤ i' + j' → (A.length - i') + (B.length - j') < (A.length - i) + (B.length - j) → F ++ (f * x.1 + g * y.1, f * x.2 + g * y.2) :: mgS (A.drop i') (B.drop j') = mgS A B → ∀ a b c d : Option D,
          ∃ m1, m1 < (A.length - i) + (B.length - j) ∧ MgE M m t A B m1 [some (.lst m), some (.lst t), some (.int (i' : Int)), some (.int (j' : Int)), some (.lst M.length), a, b, c, d] (M ++ [F.map pt2 ++ [.tup [.int (f * x.1 + g * y.1), .int (f * x.2 + g * y.2)]]]) := by
        intro f g i' j' h1 h2 h3 h4 h5 a b c d
        exact ⟨_, h4, i', j', F ++ [(f * x.1 + g * y.1, f * x.2 + g * y.2)], a, b, c, d, rfl, by simp [pt2], h1, h2, by simp; omega, by rw [← h5]; simp, rfl⟩
      cases u : caS y x with
      | true =>
        cases v : caS x y with
        | true => exact (nb ⟨u, v⟩).elim
        | false =>
          simp [ir_merged_7, w_ex, sz_eq, l0, l1, ir_merged_8, w_av, ir_merged_9, w_skip]
          refine ⟨by omega, by omega, by omega, by omega, by omega, ?_⟩
          rw [if_pos u] at sF
          have := fin 0 1 i (j + 1) hi (by omega) (by omega) (by omega) (by rw [eA, ← sF]; simp)
          simp at this
          exact this _ _ _ _
      | false =>
        cases v : caS x y with
        | true =>
          simp [ir_merged_7, w_ex, sz_eq, l0, l1, ir_merged_8, w_av, ir_merged_9, w_skip]
          refine ⟨by omega, by omega, by omega, by omega, by omega, ?_⟩
          rw [if_neg (by rw [u]; simp), if_pos v] at sF
          have := fin 1 0 (i + 1) j (by omega) hj (by omega) (by omega) (by rw [eB, ← sF]; simp)
          simp at this
          exact this _ _ _ _
        | false =>
          simp [ir_merged_7, w_ex, sz_eq, l0, l1, ir_merged_8, w_av, ir_merged_9, w_skip]
          refine ⟨by omega, by omega, by omega, by omega, by omega, ?_⟩
          rw [if_neg (by rw [u]; simp), if_neg (by rw [v]; simp)] at sF
          have := fin 1 1 (i + 1) (j + 1) (by omega) (by omega) (by omega) (by omega) (by rw [← sF]; simp [ad])
          simp at this
          exact this _ _ _ _
    · simp [c1, c2]
      exact stop (.inr (by omega))
  · simp [c1]
    exact stop (.inl (by omega))
/-! sum_of, its merging by whatever name -/
def irSum_6 : IS :=
  .seq (.ret (.ite (.cmp .Gt (.blt .len (.cons (.var 4) .nil)) (.int 1)) (.blt .tuple (.cons (.sl (.var 4) .nil (.cons (.neg (.int 1)) .nil)) .nil)) (.blt .tuple (.cons (.var 4) .nil)))) .skip
def irSum_5 : IS :=
  .seq (.ex (.mth .append (.var 4) (.cons (.tup (.cons (.var 2) (.cons (.var 3) .nil))) .nil))) .skip
def irSum_4 : IS :=
  .seq (.par [2, 3] (.cons (.bin .Add (.var 2) (.ix (.var 5) (.int 0))) (.cons (.bin .Add (.var 3) (.ix (.var 5) (.int 1))) .nil))) irSum_5
def irSum_3 (f g : String) : IS :=
  .seq (.for_ (.v 5) (.cons (.call f (.cons (.call g (.cons (.var 0) .nil)) (.cons (.call g (.cons (.var 1) .nil)) .nil))) .nil) irSum_4) irSum_6
def irSum_2 (f g : String) : IS :=
  .seq (.asg (.v 4) (.lst (.cons (.tup (.cons (.var 2) (.cons (.var 3) .nil))) .nil))) (irSum_3 f g)
def irSum (f g : String) : IS :=
  .seq (.par [2, 3] (.cons (.bin .Add (.ix (.ix (.var 0) (.int 0)) (.int 0)) (.ix (.ix (.var 1) (.int 0)) (.int 0))) (.cons (.bin .Add (.ix (.ix (.var 0) (.int 0)) (.int 1)) (.ix (.ix (.var 1) (.int 0)) (.int 1))) .nil))) (irSum_2 f g)
theorem ptl_snoc {d : P} : ∀ {C : List P} {s : P}, ptl s (C ++ [d]) = ptl s C ++ [ad s (smP C)]
  | [], s => by simp [ptl, smP, ad_zero]
  | c :: C, s => by
    rw [List.cons_append, ptl, ptl_snoc (C := C) (s := ad s c), ptl, smP, ← ad_assoc]; rfl
def S_sumE : DSpec := fun ds M Q => ∃ (k : Nat) (R R' : List (Int × Int)), ds = [.tup (R.map pt2), .tup (R'.map pt2)] ∧ R ≠ [] ∧ R' ≠ [] ∧ R.length < 100 ∧ R'.length < 100 ∧ k ≤ 800 ∧ (∀ p ∈ R, Sm k p) ∧ (∀ p ∈ R', Sm k p) ∧
  ∀ (M' : Mem), Ex M M' → (∀ p ∈ sumR R R', Sm (k + 12) p) → Q (.tup ((sumR R R').map pt2)) M'
theorem sumR_len (R R' : List P) : (sumR R R').length ≤ R.length + R'.length + 1 := by
  have h1 := sidesL_len R
  have h2 := sidesL_len R'
  have h3 := mgS_len (stepsL R) (stepsL R')
  unfold sumR stepsL at *
  simp only [List.length_map] at h3
  split
  · simp
  · rw [ptl_len]; omega
def SmE (M : Mem) (x y : D) (k f c : Nat) (s : P) (C : List (Int × Int)) (i : Nat) (ρ : En) (M' : Mem) : Prop := ∃ (a : Option D), ρ = [some x, some y, some (.int (ad s (smP (C.take i))).1), some (.int (ad s (smP (C.take i))).2), some (.lst f), a] ∧ Ex M M' ∧ M'[f]? = some ((ptl s (C.take i) ++ [ad s (smP (C.take i))]).map pt2) ∧ M'[c]? = some (C.map pt2) ∧ i ≤ C.length
theorem sm_path {k : Nat} {s : P} (hs : s.1.natAbs ≤ 2 ^ (k + 2) ∧ s.2.natAbs ≤ 2 ^ (k + 2)) : ∀ {C : List P}, (∀ p ∈ C, Sm (k + 2) p) → (ad s (smP C)).1.natAbs ≤ (C.length + 1) * 2 ^ (k + 2) ∧ (ad s (smP C)).2.natAbs ≤ (C.length + 1) * 2 ^ (k + 2)
  | [], _ => by rw [smP, ad_zero]; simp only [List.length_nil, Nat.zero_add, Nat.one_mul]; exact hs
  | c :: C, h => by
    have ih := sm_path hs (C := C) fun p hp => h p (by simp [hp])
    obtain ⟨c1, c2⟩ := h c (by simp)
    have mul : ((c :: C).length + 1) * 2 ^ (k + 2) = (C.length + 1) * 2 ^ (k + 2) + 2 ^ (k + 2) := by rw [List.length_cons]; exact Nat.succ_mul _ _
    rw [mul, smP]
    unfold ad at *
    simp only at *
    omega
theorem sum_ofE_ok (f g : String) (G : Gam) (h1 : G g = S_steps) (h2 : G f = S_mergedE) : ∀ ds M Q, S_sumE ds M Q → wpS G (irSum f g) (bodyE Q) (startD (6 - ds.length) ds) M := by
  rintro ds M Q ⟨k, R, R', rfl, n1, n2, l1, l2, hk, sR, sR', q⟩
  have p1 := List.length_pos_iff.mpr n1
  have p2 := List.length_pos_iff.mpr n2
  have g1 : R[0]? = some (cyc R 0) := cyc_lt p1
  have g2 : R'[0]? = some (cyc R' 0) := cyc_lt p2
  obtain ⟨a1, a2⟩ := sR _ (cyc_mem p1 0)
  obtain ⟨b1, b2⟩ := sR' _ (cyc_mem p2 0)
  have ek : 2 ^ (k + 2) = 4 * 2 ^ k := by rw [Nat.pow_add]; omega
  have stepB : ∀ {X : List (Int × Int)}, X ≠ [] → (∀ p ∈ X, Sm k p) → ∀ p ∈ stepsL X, Sm (k + 1) p := by
    intro X nX sX p hp
    obtain ⟨z, hz, rfl⟩ := List.mem_map.mp hp
    have mem := sides_in nX z hz
    have s1 := sX _ mem.1
    have s2 := sX _ mem.2
    exact ⟨sub_lt' s2.1 s1.1, sub_lt' s2.2 s1.2⟩
  have len1 := sidesL_len R
  have len2 := sidesL_len R'
  have lenS : ∀ X : List P, (stepsL X).length = (sidesL X).length := fun X => by unfold stepsL; simp
  simp [irSum, w_par, startD, g1, g2, irSum_2, w_av, sz_eq, irSum_3]
  refine w_for ?_
  simp [h1]
  refine ⟨R, rfl, n1, by omega, fun la M1 ea hla ga => ?_⟩
  simp [h1]
  refine ⟨R', rfl, n2, by omega, fun lb M2 eb hlb gb => ?_⟩
  have ga2 := eb.get ga
  simp [h2]
  refine ⟨k + 1, la, lb, stepsL R, stepsL R', rfl, ga2, gb, by rw [lenS]; omega, by rw [lenS]; omega, by omega, stepB n1 sR, stepB n2 sR', fun c M3 ec hc gc => ?_⟩
  have hC := mgS_len (stepsL R) (stepsL R')
  rw [lenS, lenS] at hC
  have sC := mgS_sm (stepB n1 sR) (stepB n2 sR')
  have qq : ∀ M', Ex M M' → (∀ p ∈ sumR R R', Sm (k + 12) p) → Q (.tup ((sumR R R').map pt2)) M' := q
  unfold sumR at qq
  generalize mgS (stepsL R) (stepsL R') = C at *
  have hs : (ad (cyc R 0) (cyc R' 0)).1.natAbs ≤ 2 ^ (k + 2) ∧ (ad (cyc R 0) (cyc R' 0)).2.natAbs ≤ 2 ^ (k + 2) := by
    unfold ad; simp only; omega
  have es : pt2 (ad (cyc R 0) (cyc R' 0)) = .tup [.int ((cyc R 0).1 + (cyc R' 0).1), .int ((cyc R 0).2 + (cyc R' 0).2)] := rfl
  have es1 : (cyc R 0).1 + (cyc R' 0).1 = (ad (cyc R 0) (cyc R' 0)).1 := rfl
  have es2 : (cyc R 0).2 + (cyc R' 0).2 = (ad (cyc R 0) (cyc R' 0)).2 := rfl
  have e03 := (ea.trans eb).trans ec
  have gf := e03.get (show (M ++ [[D.tup [.int ((cyc R 0).1 + (cyc R' 0).1), .int ((cyc R 0).2 + (cyc R' 0).2)]]])[M.length]? = some _ from ga_len)
  have e3 : Ex M M3 := ((Ex.refl M).app _).trans e03
  rw [← es] at gf
  rw [es1, es2]
  generalize ad (cyc R 0) (cyc R' 0) = s at *
  have lf : M.length < c := by
    have := (ea.trans eb).len
    simp at this
    omega
  have bnd : ∀ i, i ≤ C.length → Sm (k + 12) (ad s (smP (C.take i))) := by
    intro i hi
    have := sm_path hs (C := C.take i) fun p hp => sC p (List.mem_of_mem_take hp)
    have hl : (C.take i).length ≤ C.length := by simp; omega
    have m1 : ((C.take i).length + 1) * 2 ^ (k + 2) ≤ 1023 * 2 ^ (k + 2) := Nat.mul_le_mul_right _ (by omega)
    have m2 : 2 ^ (k + 12) = 1024 * 2 ^ (k + 2) := by rw [show k + 12 = 10 + (k + 2) by omega, Nat.pow_add]
    have pos : 0 < 2 ^ (k + 2) := Nat.pow_pos (by decide)
    unfold Sm
    rw [m2]
    omega
  simp
  refine ⟨⟨C.map pt2, gc, SmE M (.tup (R.map pt2)) (.tup (R'.map pt2)) k M.length c s C, ⟨none, by simp [smP, ad_zero], e3, by simpa [ptl, smP, ad_zero] using gf, gc, by omega⟩, ?_, ?_, ?_⟩, _, gc⟩
  · rintro i ρ M' _ ⟨a, rfl, e, g, g', _⟩; exact g'
  · rintro i x ρ M' hx ⟨a, rfl, e, g, g', hi⟩
    rw [List.getElem?_map] at hx
    obtain ⟨d, hd, rfl⟩ := Option.map_eq_some_iff.mp hx
    have hic : i < C.length := (List.getElem?_eq_some_iff.mp hd).1
    have tk : C.take (i + 1) = C.take i ++ [d] := by rw [List.take_add_one, hd]; rfl
    have nx : ad s (smP (C.take (i + 1))) = ((ad s (smP (C.take i))).1 + d.1, (ad s (smP (C.take i))).2 + d.2) := by
      rw [tk, smP_app, smP, smP, ad_zero, ← ad_assoc]; rfl
    have pl : (ptl s (C.take i)).length = i := by rw [ptl_len]; simp; omega
    simp [irSum_4, w_par, irSum_5, w_ex, g, sz_eq, w_skip]
    refine ⟨by rw [pl]; omega, _, by rw [nx], e.set (Nat.le_refl _), ?_, ?_, by omega⟩
    · rw [gs_self g, tk, ptl_snoc, ← tk, nx]; simp [pt2]
    · rw [gs_ne (by omega)]; exact g'
  · rintro ρ M' ⟨a, rfl, e, g, g', hi⟩
    rw [List.length_map] at g hi
    rw [List.take_length] at g
    have sF : ∀ p ∈ ptl s C, Sm (k + 12) p := fun p hp => by
      obtain ⟨P1, d, P2, rfl, rfl⟩ := ptl_mem hp
      have := bnd P1.length (by simp)
      rwa [List.take_left] at this
    have pl : (ptl s C).length = C.length := ptl_len _ _
    simp [irSum_6, w_ret, g, pl]
    by_cases z : 0 < C.length
    · have z' : (1 : Int) < (C.length : Int) + 1 := by omega
      have ne : C ≠ [] := List.length_pos_iff.mp z
      rw [if_neg ne] at qq
      rw [if_pos z', cut_m1]
      have := qq (M' ++ [((ptl s C).map pt2 ++ [pt2 (ad s (smP C))]).dropLast]) (e.app _) sF
      simpa using this
    · have z' : ¬ (1 : Int) < (C.length : Int) + 1 := by omega
      have ne : C = [] := List.length_eq_zero_iff.mp (by omega)
      rw [if_pos ne] at qq
      rw [if_neg z']
      subst ne
      have := qq M' e (fun p hp => by
        rw [List.mem_singleton.mp hp]
        have := bnd 0 (by omega)
        simpa [smP, ad_zero] using this)
      simpa [ptl, smP, ad_zero] using this
theorem len_mergedE : ∀ ds M Q, S_mergedE ds M Q → ds.length = 2 := fun _ _ _ ⟨_, _, _, _, _, e, _⟩ => by rw [e]; rfl
theorem len_sumE : ∀ ds M Q, S_sumE ds M Q → ds.length = 2 := fun _ _ _ ⟨_, _, _, e, _⟩ => by rw [e]; rfl
end DL

set_option Elab.async false
set_option linter.all false
set_option maxRecDepth 100000
set_option maxHeartbeats 4000000
set_option exponentiation.threshold 3000
namespace DL
open PySem L2 Hull PyProof PyProof.Rows
/-! rims led by tables -/
structure Tb where
  a : Int
  b : Int
  c : Int
  d : Int
def Tb.det (t : Tb) : Int := t.a * t.d - t.b * t.c
def ld (t : Tb) (p : P) : P := (t.a * p.1 + t.b * p.2, t.c * p.1 + t.d * p.2)
theorem tn_ld (t : Tb) (a b s : P) : tn (ld t a) (ld t b) (ld t s) = t.det * tn a b s := by unfold tn ld Tb.det; grind
theorem ld_inj {t : Tb} (h : t.det ≠ 0) {p q : P} (e : ld t p = ld t q) : p = q := by
  unfold ld at e
  have h1 := congrArg Prod.fst e
  have h2 := congrArg Prod.snd e
  simp only at h1 h2
  have e1 : t.det * (p.1 - q.1) = 0 := by unfold Tb.det; grind
  have e2 : t.det * (p.2 - q.2) = 0 := by unfold Tb.det; grind
  have k1 := (Int.mul_eq_zero.mp e1).resolve_left h
  have k2 := (Int.mul_eq_zero.mp e2).resolve_left h
  exact Prod.ext (by omega) (by omega)
theorem bt_prop {a b s : P} (ne : a ≠ b) (z : tn a b s = 0) (h : Bt a b s) : ∃ n m : Int, 0 < n ∧ 0 ≤ m ∧ m ≤ n ∧ n * (s.1 - a.1) = m * (b.1 - a.1) ∧ n * (s.2 - a.2) = m * (b.2 - a.2) := by
  have n0 := ne_or ne
  unfold tn at z
  have z' : (b.1 - a.1) * (s.2 - a.2) = (b.2 - a.2) * (s.1 - a.1) := by omega
  unfold Bt Lx at h
  rcases Int.lt_trichotomy (b.1 - a.1) 0 with u | u | u
  · refine ⟨-(b.1 - a.1), -(s.1 - a.1), by omega, by omega, by omega, ?_, ?_⟩
    · rw [Int.neg_mul, Int.neg_mul, Int.mul_comm]
    · rw [Int.neg_mul, Int.neg_mul, z', Int.mul_comm]
  · rw [u, Int.zero_mul] at z'
    have s1 : s.1 - a.1 = 0 := by
      rcases Int.mul_eq_zero.mp z'.symm with q | q
      · omega
      · exact q
    rw [s1, u]
    rcases Int.lt_or_le (b.2 - a.2) 0 with v | v
    · refine ⟨-(b.2 - a.2), -(s.2 - a.2), by omega, by omega, by omega, by simp, ?_⟩
      rw [Int.neg_mul, Int.neg_mul, Int.mul_comm]
    · refine ⟨b.2 - a.2, s.2 - a.2, by omega, by omega, by omega, by simp, by rw [Int.mul_comm]⟩
  · exact ⟨b.1 - a.1, s.1 - a.1, u, by omega, by omega, by rw [Int.mul_comm], by rw [z', Int.mul_comm]⟩
theorem dt_scal {n m : Int} {u v : P} (e1 : n * v.1 = m * u.1) (e2 : n * v.2 = m * u.2) (w : P) : n * dt w v = m * dt w u := by
  unfold dt
  have k1 : n * (w.1 * v.1) = m * (w.1 * u.1) := by
    rw [← Int.mul_assoc, Int.mul_comm n, Int.mul_assoc, e1, ← Int.mul_assoc, Int.mul_comm w.1, Int.mul_assoc]
  have k2 : n * (w.2 * v.2) = m * (w.2 * u.2) := by
    rw [← Int.mul_assoc, Int.mul_comm n, Int.mul_assoc, e2, ← Int.mul_assoc, Int.mul_comm w.2, Int.mul_assoc]
  rw [Int.mul_add, Int.mul_add, k1, k2]
theorem ld_sc {t : Tb} {n m : Int} {a b s : P} (e1 : n * (s.1 - a.1) = m * (b.1 - a.1)) (e2 : n * (s.2 - a.2) = m * (b.2 - a.2)) : n * (sb (ld t s) (ld t a)).1 = m * (sb (ld t b) (ld t a)).1 ∧ n * (sb (ld t s) (ld t a)).2 = m * (sb (ld t b) (ld t a)).2 := by
  have lin : ∀ x y : Int, n * (x * (s.1 - a.1) + y * (s.2 - a.2)) = m * (x * (b.1 - a.1) + y * (b.2 - a.2)) := fun x y => by
    have k1 : n * (x * (s.1 - a.1)) = m * (x * (b.1 - a.1)) := by
      rw [← Int.mul_assoc, Int.mul_comm n, Int.mul_assoc, e1, ← Int.mul_assoc, Int.mul_comm x, Int.mul_assoc]
    have k2 : n * (y * (s.2 - a.2)) = m * (y * (b.2 - a.2)) := by
      rw [← Int.mul_assoc, Int.mul_comm n, Int.mul_assoc, e2, ← Int.mul_assoc, Int.mul_comm y, Int.mul_assoc]
    rw [Int.mul_add, Int.mul_add, k1, k2]
  have d : ∀ (x y : Int) (p q : P), x * p.1 + y * p.2 - (x * q.1 + y * q.2) = x * (p.1 - q.1) + y * (p.2 - q.2) := fun x y p q => by
    rw [Int.mul_sub, Int.mul_sub]; omega
  unfold sb ld
  simp only
  rw [d, d, d, d]
  exact ⟨lin _ _, lin _ _⟩
theorem bt_ld {t : Tb} (h : t.det ≠ 0) {a b s : P} (ne : a ≠ b) (z : tn a b s = 0) (hb : Bt a b s) : Bt (ld t a) (ld t b) (ld t s) := by
  obtain ⟨n, m, hn, hm, hmn, e1, e2⟩ := bt_prop ne z hb
  obtain ⟨k1, k2⟩ := ld_sc (t := t) e1 e2
  have A := dd_nn (sb (ld t b) (ld t a))
  have e := dt_scal k1 k2 (sb (ld t b) (ld t a))
  refine bt_of (fun q => ne (ld_inj h q)) (by rw [tn_ld, z, Int.mul_zero]) ?_ ?_
  · refine nn_of hn ?_
    rw [e]
    exact Int.mul_nonneg hm A
  · refine nn_of hn ?_
    have e' : dt (sb (ld t b) (ld t a)) (sb (ld t b) (ld t s)) = dt (sb (ld t b) (ld t a)) (sb (ld t b) (ld t a)) - dt (sb (ld t b) (ld t a)) (sb (ld t s) (ld t a)) := by unfold dt sb; grind
    rw [e', Int.mul_sub, e, ← Int.sub_mul]
    exact Int.mul_nonneg (by omega) A
theorem nx_pos {t : Tb} (h : 0 < t.det) {S : List P} {a b : P} (n : Nx S a b) : Nx (S.map (ld t)) (ld t a) (ld t b) := by
  refine ⟨fun e => n.1 (ld_inj (by omega) e), List.mem_map_of_mem n.2.1, fun s hs => ?_⟩
  obtain ⟨x, hx, rfl⟩ := List.mem_map.mp hs
  rw [tn_ld]
  rcases n.2.2 x hx with q | ⟨q, hb⟩
  · exact .inl (Int.mul_pos h q)
  · exact .inr ⟨by rw [q, Int.mul_zero], bt_ld (by omega) n.1 q hb⟩
theorem bt_sw {a b s : P} (h : Bt a b s) : Bt b a s := by unfold Bt at *; exact h.symm
theorem tn_sw3 (a b c : P) : tn b a c = - tn a b c := by unfold tn; grind
theorem nx_negd {t : Tb} (h : t.det < 0) {S : List P} {a b : P} (ha : a ∈ S) (n : Nx S a b) : Nx (S.map (ld t)) (ld t b) (ld t a) := by
  refine ⟨fun e => n.1 (ld_inj (by omega) e).symm, List.mem_map_of_mem ha, fun s hs => ?_⟩
  obtain ⟨x, hx, rfl⟩ := List.mem_map.mp hs
  rw [tn_sw3, tn_ld, ← Int.neg_mul]
  rcases n.2.2 x hx with q | ⟨q, hb⟩
  · exact .inl (Int.mul_pos (by omega) q)
  · exact .inr ⟨by rw [q, Int.mul_zero], bt_sw (bt_ld (by omega) n.1 q hb)⟩
/-- a round of next ones from the least on is a rim -/
theorem rim_of_cyc {X : List P} (h2 : 2 ≤ X.length) (nd : X.Nodup) (nx : ∀ k, k < X.length → Nx X (cyc X k) (cyc X (k + 1))) (least : ∀ s ∈ X, ¬ Lx s (cyc X 0)) : Rim X X := by
  obtain ⟨m, hm⟩ : ∃ m, X.length = m + 1 := ⟨X.length - 1, by omega⟩
  have er := cyc_range X
  rw [hm] at er
  have e0 : (List.range (m + 1)).map (cyc X) = cyc X 0 :: (List.range m).map (cyc X ∘ Nat.succ) := by rw [List.range_succ_eq_map, List.map_cons, List.map_map]
  have en : cyc X (m + 1) = cyc X 0 := by have := cyc_per X 0; rwa [Nat.zero_add, hm] at this
  refine ⟨cyc X 0, (List.range m).map (cyc X ∘ Nat.succ), by rw [← e0, er], cyc_mem (by omega) 0, least, .inr ⟨?_, ?_, ?_⟩⟩
  · intro h
    have := congrArg List.length h
    simp at this
    omega
  · rw [← e0, er]; exact nd
  · have e1 : cyc X 0 :: ((List.range m).map (cyc X ∘ Nat.succ) ++ [cyc X 0]) = (List.range (m + 1 + 1)).map (cyc X) := by
      rw [List.range_succ, List.map_append, e0, List.map_cons, List.map_nil, en]; rfl
    rw [e1]
    exact ed_range _ (cyc X) fun k hk => nx k (by omega)
theorem cyc_of {X : List P} {k j : Nat} {p : P} (hj : j < X.length) (e : k % X.length = j) (g : X[j]? = some p) : cyc X k = p := by
  unfold cyc
  rw [e, List.getD_eq_getElem?_getD, g]; rfl
theorem cyc_rot {X : List P} {i : Nat} (hi : i < X.length) (k : Nat) : cyc (X.drop i ++ X.take i) k = cyc X (i + k) := by
  have hl : (X.drop i ++ X.take i).length = X.length := by simp; omega
  have hk : k % X.length < X.length := Nat.mod_lt _ (by omega)
  refine cyc_of (j := k % X.length) (by rw [hl]; exact hk) (by rw [hl]) ?_
  have e : cyc X (i + k) = cyc X ((i + k % X.length) % X.length) := by unfold cyc; rw [Nat.mod_mod, Nat.add_mod_mod]
  rw [e]
  generalize k % X.length = j at *
  by_cases h : j < X.length - i
  · rw [List.getElem?_append_left (by simp; omega), List.getElem?_drop, Nat.mod_eq_of_lt (by omega)]
    exact cyc_lt (by omega)
  · have e2 : (i + j) % X.length = i + j - X.length := by rw [Nat.mod_eq_sub_mod (by omega), Nat.mod_eq_of_lt (by omega)]
    rw [List.getElem?_append_right (by simp; omega), e2, List.length_drop, List.getElem?_take_of_lt (by omega)]
    have : j - (X.length - i) = i + j - X.length := by omega
    rw [this]
    exact cyc_lt (by omega)
theorem cyc_back {X : List P} {j : Nat} (hj : j < X.length) : cyc X.reverse j = cyc X (X.length - 1 - j) := by
  refine cyc_of (j := j) (by simpa using hj) (by rw [List.length_reverse]; exact Nat.mod_eq_of_lt hj) ?_
  rw [List.getElem?_reverse hj]
  exact cyc_lt (by omega)
def ledC (t : Tb) (R : List P) : List P := if t.det < 0 then (R.map (ld t)).reverse else R.map (ld t)
theorem ledC_len (t : Tb) (R : List P) : (ledC t R).length = R.length := by unfold ledC; split <;> simp
theorem ledC_mem (t : Tb) (R : List P) (p : P) : p ∈ ledC t R ↔ p ∈ R.map (ld t) := by unfold ledC; split <;> simp
theorem map_nodup {f : P → P} (inj : ∀ p q, f p = f q → p = q) {R : List P} (nd : R.Nodup) : (R.map f).Nodup := by
  refine List.pairwise_map.mpr (List.Pairwise.imp (fun h e => h (inj _ _ e)) nd)
theorem led_rim {t : Tb} {R : List P} {i : Nat} {m : P} (h : t.det ≠ 0) (r : Rim R R) (hi : (ledC t R)[i]? = some m) (least : ∀ q ∈ ledC t R, ¬ Lx q m) : Rim ((ledC t R).drop i ++ (ledC t R).take i) ((ledC t R).drop i ++ (ledC t R).take i) := by
  have hil := (List.getElem?_eq_some_iff.mp hi).1
  rw [ledC_len] at hil
  have ne := rim_ne r
  by_cases h1 : R.length = 1
  · have l1 : (ledC t R).length = 1 := by rw [ledC_len, h1]
    obtain ⟨p, hp⟩ := List.length_eq_one_iff.mp l1
    have i0 : i = 0 := by omega
    rw [hp, i0]
    exact rim_one p
  · have h2 : 2 ≤ R.length := by omega
    obtain ⟨nx, _, nd⟩ := rim_nx r h2
    have inj : ∀ p q, ld t p = ld t q → p = q := fun p q => ld_inj h
    have ndm := map_nodup inj nd
    have hml : (R.map (ld t)).length = R.length := by simp
    -- the round of what is led
    have key : (ledC t R).Nodup ∧ ∀ k, k < (ledC t R).length → Nx (ledC t R) (cyc (ledC t R) k) (cyc (ledC t R) (k + 1)) := by
      unfold ledC
      split
      · rename_i neg
        refine ⟨List.pairwise_reverse.mpr (ndm.imp fun h e => h e.symm), fun k hk => ?_⟩
        rw [List.length_reverse, hml] at hk
        have mem : ∀ s, s ∈ R.map (ld t) ↔ s ∈ (R.map (ld t)).reverse := fun s => by simp
        refine Nx.congr mem ?_
        have e1 : cyc (R.map (ld t)).reverse k = ld t (cyc R (R.length - 1 - k)) := by
          rw [cyc_back (by rw [hml]; exact hk), hml, cyc_map (by omega)]
        rw [e1]
        by_cases hk1 : k + 1 < R.length
        · rw [cyc_back (by rw [hml]; exact hk1), hml, cyc_map (by omega)]
          have e2 : R.length - 1 - k = (R.length - 1 - (k + 1)) + 1 := by omega
          rw [e2]
          exact nx_negd neg (cyc_mem (by omega) _) (nx _)
        · have ek : k + 1 = R.length := by omega
          have e2 : cyc (R.map (ld t)).reverse (k + 1) = ld t (cyc R (R.length - 1)) := by
            have := cyc_per (R.map (ld t)).reverse 0
            rw [Nat.zero_add, List.length_reverse, hml, ← ek] at this
            rw [this, cyc_back (by rw [hml]; omega), hml, cyc_map (by omega)]
            rfl
          have e3 : cyc R (R.length - 1 - k) = cyc R (R.length - 1 + 1) := by
            have := cyc_per R 0
            rw [Nat.zero_add] at this
            rw [show R.length - 1 - k = 0 by omega, show R.length - 1 + 1 = R.length by omega, this]
          rw [e2, e3]
          exact nx_negd neg (cyc_mem (by omega) _) (nx _)
      · rename_i nneg
        refine ⟨ndm, fun k _ => ?_⟩
        rw [cyc_map (by omega), cyc_map (by omega)]
        exact nx_pos (by omega) (nx k)
    obtain ⟨ndc, nxc⟩ := key
    have hlc := ledC_len t R
    generalize ledC t R = X at *
    have hper : ∀ k, Nx X (cyc X k) (cyc X (k + 1)) := fun k => by
      have := nxc (k % X.length) (Nat.mod_lt _ (by omega))
      rw [cyc_mod] at this
      have e : cyc X (k % X.length + 1) = cyc X (k + 1) := by unfold cyc; rw [Nat.mod_add_mod]
      rwa [e] at this
    have mem : ∀ s, s ∈ X ↔ s ∈ X.drop i ++ X.take i := fun s => by
      have h := List.take_append_drop i X
      constructor
      · intro hs
        rw [← h] at hs
        rcases List.mem_append.mp hs with q | q
        · exact List.mem_append.mpr (.inr q)
        · exact List.mem_append.mpr (.inl q)
      · intro hs
        rcases List.mem_append.mp hs with q | q
        · exact List.mem_of_mem_drop q
        · exact List.mem_of_mem_take q
    have hl : (X.drop i ++ X.take i).length = X.length := by simp; omega
    refine rim_of_cyc (by omega) ?_ (fun k hk => ?_) fun s hs => ?_
    · have e : (X.drop i ++ X.take i).Perm X := by
        have := List.perm_append_comm (l₁ := X.drop i) (l₂ := X.take i)
        rwa [List.take_append_drop] at this
      exact e.symm.pairwise ndc fun h => Ne.symm h
    · rw [cyc_rot (by omega), cyc_rot (by omega)]
      exact Nx.congr mem (hper (i + k))
    · rw [cyc_rot (by omega), Nat.add_zero]
      have : cyc X i = m := cyc_of (by omega) (Nat.mod_eq_of_lt (by omega)) hi
      rw [this]
      exact least s ((mem s).mpr hs)
/-! the program's -/
-- slots ['way']
-- slots ['rim', 'way']
-- slots ['rim', 'way', 'broad']
def ir_determinant_5 : IS :=
  .seq (.ret (.var 5)) .skip
def ir_determinant_4 : IS :=
  .seq .rse .skip
def ir_determinant_3 : IS :=
  .seq (.ite (.cmp .Eq (.var 5) (.int 0)) ir_determinant_4 .skip) ir_determinant_5
def ir_determinant_2 : IS :=
  .seq (.asg (.v 5) (.bin .Sub (.bin .Mult (.var 1) (.var 4)) (.bin .Mult (.var 2) (.var 3)))) ir_determinant_3
def ir_determinant_1 : IS :=
  .seq (.asg (.t (.cons (.t (.cons (.v 1) (.cons (.v 2) .nil))) (.cons (.t (.cons (.v 3) (.cons (.v 4) .nil))) .nil))) (.var 0)) ir_determinant_2
abbrev ir_determinant : IS := ir_determinant_1
-- slots ['table', 'a', 'b', 'c', 'd', 'size']
def ir_led_7 : IS :=
  .seq (.ret (.blt .tuple (.cons (.bin .Add (.sl (.var 7) (.cons (.var 8) .nil) .nil) (.sl (.var 7) .nil (.cons (.var 8) .nil))) .nil))) .skip
def ir_led_6 : IS :=
  .seq (.asg (.v 8) (.mth .index (.var 7) (.cons (.blt .mnp (.cons (.var 7) .nil)) .nil))) ir_led_7
def ir_led_5 : IS :=
  .seq (.ex (.mth .reverse (.var 7) .nil)) .skip
def ir_led_4 : IS :=
  .seq (.ite (.cmp .Lt (.var 2) (.int 0)) ir_led_5 .skip) ir_led_6
def ir_led_3 : IS :=
  .seq (.asg (.v 7) (.comp (.tup (.cons (.bin .Add (.bin .Mult (.var 3) (.var 9)) (.bin .Mult (.var 4) (.var 10))) (.cons (.bin .Add (.bin .Mult (.var 5) (.var 9)) (.bin .Mult (.var 6) (.var 10))) .nil))) [9, 10] [9, 10] (.cons (.var 0) .nil) .nil)) ir_led_4
def ir_led_2 : IS :=
  .seq (.asg (.t (.cons (.t (.cons (.v 3) (.cons (.v 4) .nil))) (.cons (.t (.cons (.v 5) (.cons (.v 6) .nil))) .nil))) (.var 1)) ir_led_3
def ir_led_1 : IS :=
  .seq (.asg (.v 2) (.call "determinant" (.cons (.var 1) .nil))) ir_led_2
abbrev ir_led : IS := ir_led_1
-- slots ['rim', 'table', 'size', 'a', 'b', 'c', 'd', 'corners', 'first', 'x', 'y']
def ir_law_great_6 : IS :=
  .seq (.ret (.var 1)) .skip
def ir_law_great_5 : IS :=
  .seq (.asg (.v 1) (.call "led" (.cons (.var 1) (.cons (.tup (.cons (.tup (.cons (.var 3) (.cons (.var 4) .nil))) (.cons (.tup (.cons (.var 5) (.cons (.var 6) .nil))) .nil))) .nil)))) .skip
def ir_law_great_4 : IS :=
  .seq (.ite (.cmp .NotEq (.bin .Mult (.var 3) (.var 6)) (.bin .Mult (.var 4) (.var 5))) ir_law_great_5 .skip) .skip
def ir_law_great_3 : IS :=
  .seq (.asg (.t (.cons (.v 3) (.cons (.v 4) (.cons (.v 5) (.cons (.v 6) .nil))))) (.comp (.call "_law_far" (.cons (.var 0) .nil)) [7] [7] (.rng1 (.int 4)) .nil)) ir_law_great_4
def ir_law_great_2 : IS :=
  .seq (.for_ (.v 2) (.rng1 (.bin .Add (.int 1) (.call "_law_draw" (.cons (.var 0) (.cons (.int 4) .nil))))) ir_law_great_3) ir_law_great_6
def ir_law_great_1 : IS :=
  .seq (.asg (.v 1) (.call "_law_wrapped" (.cons (.comp (.tup (.cons (.bin .Sub (.call "_law_draw" (.cons (.var 0) (.cons (.int 9) .nil))) (.int 4)) (.cons (.bin .Sub (.call "_law_draw" (.cons (.var 0) (.cons (.int 9) .nil))) (.int 4)) .nil))) [7] [7] (.rng1 (.bin .Add (.int 3) (.call "_law_draw" (.cons (.var 0) (.cons (.int 5) .nil))))) .nil) .nil))) ir_law_great_2
abbrev ir_law_great : IS := ir_law_great_1
-- slots ['_law_feed_here', '_law_rim_here', '_law_lap', '_law_a', '_law_b', '_law_c', '_law_d', '_law_k']
-- slots ['_law_rim_here', '_law_x', '_law_y']
def S_det : DSpec := fun ds M Q => ∃ (k : Nat) (t : Tb), ds = [.tup [.tup [.int t.a, .int t.b], .tup [.int t.c, .int t.d]]] ∧ k ≤ 4000 ∧ t.a.natAbs < 2 ^ k ∧ t.b.natAbs < 2 ^ k ∧ t.c.natAbs < 2 ^ k ∧ t.d.natAbs < 2 ^ k ∧ t.det ≠ 0 ∧ Q (.int t.det) M
def S_ledR : DSpec := fun ds M Q => ∃ (k j : Nat) (R : List P) (t : Tb), ds = [.tup (R.map pt2), .tup [.tup [.int t.a, .int t.b], .tup [.int t.c, .int t.d]]] ∧ k ≤ 4000 ∧ j ≤ 4000 ∧ t.a.natAbs < 2 ^ j ∧ t.b.natAbs < 2 ^ j ∧ t.c.natAbs < 2 ^ j ∧ t.d.natAbs < 2 ^ j ∧ t.det ≠ 0 ∧ Rim R R ∧ R.length < 1000 ∧ (∀ p ∈ R, Sm k p) ∧
  ∀ (T : List P) (M' : Mem), Ex M M' → Rim T T → T.length = R.length → (∀ p, p ∈ T ↔ p ∈ R.map (ld t)) → (∀ p ∈ T, Sm (j + k + 1) p) → Q (.tup (T.map pt2)) M'
theorem determinant_ok (G : Gam) : ∀ ds M Q, S_det ds M Q → wpS G ir_determinant (bodyE Q) (startD (6 - ds.length) ds) M := by
  rintro ds M Q ⟨k, t, rfl, hk, ha, hb, hc, hd, nz, q⟩
  have l1 := lg_of ha
  have l2 := lg_of hb
  have l3 := lg_of hc
  have l4 := lg_of hd
  simp [ir_determinant_1, w_at, startD, ir_determinant_2, w_av]
  refine ⟨by omega, by omega, ?_⟩
  have e : t.a * t.d - t.b * t.c = t.det := rfl
  rw [e]
  simp [ir_determinant_3, w_ite, w_skip, nz, ir_determinant_5, w_ret]
  exact q
theorem eqv_pts (p q : P) : PyData.eqv (DPt.ptD q) (DPt.ptD p) = decide (q = p) := by
  simp only [DPt.ptD, PyData.eqv, PyData.eqvAll]
  by_cases h1 : q.1 = p.1 <;> by_cases h2 : q.2 = p.2 <;> simp [h1, h2, Prod.ext_iff]
theorem shp_ptD (p : P) : SeqAt.shaped (DPt.ptD p) = true := by simp [DPt.ptD, SeqAt.shaped, PyData.canLay0, PyData.canLayAll0, PyData.depth, PyData.depthAll]
theorem shp_ptDs (ls : List P) : SeqAt.shaped (.list (ls.map DPt.ptD)) = true := by
  have sh : PyData.canLayAll0 (ls.map DPt.ptD) = true ∧ PyData.depthAll (ls.map DPt.ptD) ≤ 2 := by
    induction ls with
    | nil => exact ⟨rfl, by simp [PyData.depthAll]⟩
    | cons p ls ih =>
      have := ih.2
      constructor
      · simp [PyData.canLayAll0, ih.1, DPt.lay_pt]
      · simp only [List.map_cons, PyData.depthAll, DPt.ptD, PyData.depth] at this ⊢
        omega
  have h2 := sh.2
  simp [SeqAt.shaped, PyData.canLay0, PyData.depth, sh.1]
  omega
theorem index_pts {M : Mem} {Q : Kn} {p : P} {k : Nat} {ls : List P} (g : M[k]? = some (ls.map pt2)) (h : p ∈ ls) (r : ∀ j : Nat, ls[j]? = some p → Q (.int (j : Int)) M) : mfD .index (.lst k) [pt2 p] M Q := by
  rw [mfD_index]
  have hl := List.idxOf_lt_length_of_mem h
  have hg : ls[ls.idxOf p]? = some p := by rw [List.getElem?_eq_getElem hl, List.getElem_idxOf hl]
  refine ⟨_, DPt.ptD p, _, ls.idxOf p, DPt.ptD p, g, .tup (.cons (.int _) (.cons (.int _) .nil)), pdl_pts ls, shp_ptDs ls, shp_ptD p, ?_, ?_, ?_, r _ hg⟩
  · rw [List.getElem?_map, hg]; rfl
  · rw [eqv_pts]; simp
  · intro m z hm hz
    rw [List.getElem?_map] at hz
    have hm' : m < ls.length := by omega
    rw [List.getElem?_eq_getElem hm'] at hz
    simp at hz
    subst hz
    rw [eqv_pts]
    have := List.not_of_lt_findIdx (p := (· == p)) (xs := ls) (i := m) hm
    simpa using this
theorem ld_sm {k j : Nat} {t : Tb} {p : P} (ha : t.a.natAbs < 2 ^ j) (hb : t.b.natAbs < 2 ^ j) (hc : t.c.natAbs < 2 ^ j) (hd : t.d.natAbs < 2 ^ j) (hp : Sm k p) : Sm (j + k + 1) (ld t p) :=
  ⟨add_lt (mul_lt ha hp.1) (mul_lt hb hp.2), add_lt (mul_lt hc hp.1) (mul_lt hd hp.2)⟩
theorem led_ok (G : Gam) (h : G "determinant" = S_det) : ∀ ds M Q, S_ledR ds M Q → wpS G ir_led (bodyE Q) (startD (11 - ds.length) ds) M := by
  rintro ds M Q ⟨k, j, R, t, rfl, hk, hj, ha, hb, hc, hd, nz, r, few, sm, q⟩
  have l1 := lg_of ha
  have l2 := lg_of hb
  have l3 := lg_of hc
  have l4 := lg_of hd
  simp [ir_led_1, w_av, startD, h]
  refine ⟨j, t, rfl, hj, ha, hb, hc, hd, nz, ?_⟩
  simp [ir_led_2, w_at, ir_led_3, w_av]
  refine w_compG ?_
  simp
  refine rest_pure (xs := R.map pt2) (fun z => some (pt2 (ld t (unpt z)))) (by simp) (by rw [List.length_map, sz_eq]; omega) ?_ ?_
  · intro x hx T hT
    obtain ⟨p, hp, rfl⟩ := List.mem_map.mp hx
    have s1 := lg_of (sm p hp).1
    have s2 := lg_of (sm p hp).2
    simp [sz_eq]
    refine ⟨by omega, by omega, by omega, by omega, ?_⟩
    exact hT
  · rw [map_pts (f := fun p => pt2 (ld t p))]
    have em : R.map (fun p => pt2 (ld t p)) = (R.map (ld t)).map pt2 := by simp [Function.comp_def]
    rw [em]
    have fin : ∀ M1, Ex M M1 → M1[M.length]? = some ((ledC t R).map pt2) → ∀ (x y u v : Option D), wpS G ir_led_6 (bodyE Q) [some (.tup (R.map pt2)), x, y, u, v, some (.int t.c), some (.int t.d), some (.lst M.length), none, none, none] M1 := by
      intro M1 e1 g1 x y u v
      have ne : ledC t R ≠ [] := fun z => by
        have := congrArg List.length z
        rw [ledC_len] at this
        exact rim_ne r (List.length_eq_zero_iff.mp this)
      simp [ir_led_6, w_av, g1]
      refine ⟨ledC t R, by simp, ne, fun u1 u2 hm least => ?_⟩
      refine index_pts (p := (u1, u2)) g1 hm fun i hi => ?_
      have hil := (List.getElem?_eq_some_iff.mp hi).1
      rw [ledC_len] at hil
      have hlc := ledC_len t R
      simp [ir_led_7, w_ret, g1]
      rw [cut_from (by simp; omega)]
      have g2 : ∀ X : List D, (M1 ++ [X])[M.length]? = some ((ledC t R).map pt2) := fun X => ga_lt g1
      simp [g2, sz_eq]
      rw [cut_to (by omega) (by simp; omega)]
      simp
      refine ⟨by omega, ?_⟩
      have := q ((ledC t R).drop i ++ (ledC t R).take i) (M1 ++ [((ledC t R).map pt2).drop i, ((ledC t R).map pt2).take i, ((ledC t R).map pt2).drop i ++ ((ledC t R).map pt2).take i]) (e1.trans ⟨_, rfl⟩) (led_rim nz r hi fun q hq => least q.1 q.2 hq) (by simp; omega) (fun p => ?_) (fun p hp => ?_)
      · simpa [List.map_drop, List.map_take] using this
      · rw [← ledC_mem]
        have h := List.take_append_drop i (ledC t R)
        constructor
        · intro hs
          rcases List.mem_append.mp hs with q | q
          · exact List.mem_of_mem_drop q
          · exact List.mem_of_mem_take q
        · intro hs
          rw [← h] at hs
          rcases List.mem_append.mp hs with q | q
          · exact List.mem_append.mpr (.inr q)
          · exact List.mem_append.mpr (.inl q)
      · have hp' : p ∈ ledC t R := by
          rcases List.mem_append.mp hp with q | q
          · exact List.mem_of_mem_drop q
          · exact List.mem_of_mem_take q
        rw [ledC_mem] at hp'
        obtain ⟨p', hp2, rfl⟩ := List.mem_map.mp hp'
        exact ld_sm ha hb hc hd (sm p' hp2)
    simp [ir_led_4, w_ite]
    by_cases c : t.det < 0
    · simp [c, ir_led_5, w_ex, w_skip]
      refine fin _ ⟨[_], rfl⟩ ?_ _ _ _ _
      unfold ledC
      rw [if_pos c]
      simp
    · simp [c, w_skip]
      refine fin _ ⟨[_], rfl⟩ ?_ _ _ _ _
      unfold ledC
      rw [if_neg c]
      simp
end DL

set_option Elab.async false
set_option linter.all false
set_option maxRecDepth 100000
set_option maxHeartbeats 4000000
set_option exponentiation.threshold 3000
namespace DL
open PySem L2 Hull PyProof PyProof.Rows
def S_great : DSpec := fun ds M Q => ∃ n a : Nat, ds = [.lst n] ∧ Feed n a M ∧ a < 2 ^ 57 ∧ ∀ (R : List P) (M' : Mem), Fx n (a + 100) M M' → Rim R R → R.length ≤ 7 → (∀ p ∈ R, Sm 180 p) → Q (.tup (R.map pt2)) M'
def GrI (n a : Nat) (M : Mem) (i : Nat) (ρ : En) (M' : Mem) : Prop := Fx n (a + 20 + 12 * i) M M' ∧ ∃ R : List P, Rim R R ∧ R.length ≤ 7 ∧ (∀ p ∈ R, Sm (4 + 41 * i) p) ∧ ∃ o1 o2 o3 o4 o5 o6, ρ = [some (.lst n), some (.tup (R.map pt2)), o1, o2, o3, o4, o5, o6]
theorem law_great_ok (G : Gam) (hd : G "_law_draw" = S_draw) (hf : G "_law_far" = S_far) (hw : G "_law_wrapped" = S_rim) (hl : G "led" = S_ledR) : ∀ ds M Q, S_great ds M Q → wpS G ir_law_great (bodyE Q) (startD (8 - ds.length) ds) M := by
  rintro ds M Q ⟨n, a, rfl, F, ha, q⟩
  simp [ir_law_great_1, w_av, startD]
  refine w_compG ?_
  simp [hd]
  refine ⟨n, a, 5, rfl, F, by omega, by decide, by decide, fun c M1 c0 c1 f1 => ?_⟩
  simp
  refine ⟨by omega, rest_draw (n := n) (a := a + 1) (xs := rngD 0 (3 + c).toNat) 2 (fun _ y => ∃ p, y = pt2 p ∧ Sm 4 p) f1.feed (by rw [rngD_len]; omega) (fun _ _ _ => by simp) (fun _ _ _ _ h _ => h) ?_ ?_⟩
  · intro i x M4 R hx hi f4 hR
    rw [rngD_len] at hi
    simp [hd]
    refine ⟨n, a + 1 + 2 * i, 9, rfl, f4.feed, by omega, by decide, by decide, fun r1 M5 h1 h2 f5 => ?_⟩
    simp
    refine ⟨n, a + 1 + 2 * i + 1, 9, rfl, f5.feed, by omega, by decide, by decide, fun r2 M6 h3 h4 f6 => ?_⟩
    simp [sz_eq]
    exact hR _ _ ((f5.trans f6).mono (by omega)) ⟨(r1 - 4, r2 - 4), rfl, by simp only; omega, by simp only; omega⟩
  · intro acc M4 hacc f4 hP
    rw [rngD_len] at hacc f4
    obtain ⟨ls, rfl, hs⟩ := all_pts (S := Sm 4) hP
    rw [List.length_map] at hacc
    have f4 := f1.trans f4
    simp [hw]
    refine ⟨4, _, ls, rfl, .inl ⟨_, rfl, ga_len⟩, by decide, fun z => by rw [z] at hacc; simp at hacc; omega, .inl (by omega), hs, fun R M5 e5 rR => ?_⟩
    have lR := rim_len rR
    have sR := rim_sm rR hs
    have f5 := (f4.app (ls.map pt2)).exx e5
    unfold ir_law_great_2
    refine w_for ?_
    simp [hd]
    refine ⟨n, a + 20, 4, rfl, f5.feed.mono (by omega), by omega, by decide, by decide, fun r M6 r0 r1 f6 => ?_⟩
    simp
    have f6 := f5.trans f6
    refine ⟨by omega, GrI n (a + 1) M, ⟨f6.mono (by omega), R, rR.self, by omega, fun p hp => (sR p hp).up (by omega), _, _, _, _, _, _, rfl⟩, ?_, ?_⟩
    · rintro i x ρ M7 hx ⟨f7, R7, r7, l7, s7, o1, o2, o3, o4, o5, o6, rfl⟩
      have hi : i < 4 := by
        have := (List.getElem?_eq_some_iff.mp hx).1
        rw [rngD_len] at this
        omega
      simp [ir_law_great_3, w_at]
      refine w_compG ?_
      simp
      refine rest_draw (n := n) (a := a + 1 + 20 + 12 * i) (xs := rngD 0 4) 3 (fun _ y => ∃ z : Int, y = .int z ∧ z.natAbs < 2 ^ 40) f7.feed (by rw [rngD_len]; decide) (fun _ _ _ => by simp) (fun _ _ _ _ h _ => h) ?_ ?_
      · intro k x M8 T hx hk f8 hT
        rw [rngD_len] at hk
        simp [hf]
        exact ⟨n, a + 1 + 20 + 12 * i + 3 * k, rfl, f8.feed, by omega, fun z M9 hz f9 => hT _ _ f9 ⟨z, rfl, hz⟩⟩
      · intro acc M8 hacc f8 hP
        rw [rngD_len] at hacc f8
        have f8 := (f7.trans f8).app acc
        match acc, hacc, hP with
        | [x1, x2, x3, x4], _, hP =>
          obtain ⟨z1, rfl, b1⟩ := hP x1 (by simp)
          obtain ⟨z2, rfl, b2⟩ := hP x2 (by simp)
          obtain ⟨z3, rfl, b3⟩ := hP x3 (by simp)
          obtain ⟨z4, rfl, b4⟩ := hP x4 (by simp)
          have l1 := lg_of b1
          have l2 := lg_of b2
          have l3 := lg_of b3
          have l4 := lg_of b4
          simp [ir_law_great_4, w_ite, w_skip]
          refine ⟨by omega, by omega, ?_⟩
          by_cases e : z1 * z4 = z2 * z3
          · simp [e]
            exact ⟨f8.mono (by omega), R7, r7, l7, fun p hp => (s7 p hp).up (by omega), _, _, _, _, _, _, rfl⟩
          · simp [e, ir_law_great_5, w_av, sz_eq, hl]
            refine ⟨4 + 41 * i, 40, R7, ⟨z1, z2, z3, z4⟩, rfl, by omega, by decide, b1, b2, b3, b4, ?_, r7, by omega, s7, fun T M9 e9 rT lT _ sT => ?_⟩
            · unfold Tb.det
              simp only
              omega
            · simp
              exact ⟨(f8.exx e9).mono (by omega), T, rT, by omega, fun p hp => (sT p hp).up (by omega), _, _, _, _, _, _, rfl⟩
    · rintro ρ M7 ⟨f7, R7, r7, l7, s7, o1, o2, o3, o4, o5, o6, rfl⟩
      rw [rngD_len] at f7 s7
      simp [ir_law_great_6, w_ret]
      exact q R7 M7 (f7.mono (by omega)) r7 l7 fun p hp => (s7 p hp).up (by omega)
/-! how broad -/
def Brd (R : List P) (w : P) (m : Int) : Prop := (∃ p ∈ R, ∃ p' ∈ R, m = dt w p - dt w p') ∧ ∀ r ∈ R, ∀ s ∈ R, dt w r - dt w s ≤ m
theorem Brd.uniq {R : List P} {w : P} {m m' : Int} (h : Brd R w m) (h' : Brd R w m') : m = m' := by
  obtain ⟨⟨p, hp, q, hq, e⟩, f⟩ := h
  obtain ⟨⟨p', hp', q', hq', e'⟩, f'⟩ := h'
  have := f p' hp' q' hq'
  have := f' p hp q hq
  omega
theorem dt_negl (w p : P) : dt (neg w) p = - dt w p := by unfold dt neg; simp only [Int.neg_mul]; omega
theorem Brd.neg {R : List P} {w : P} {m : Int} (h : Brd R w m) : Brd R (neg w) m := by
  obtain ⟨⟨p, hp, q, hq, e⟩, f⟩ := h
  refine ⟨⟨q, hq, p, hp, by rw [dt_negl, dt_negl]; omega⟩, fun r hr s hs => ?_⟩
  have := f s hs r hr
  rw [dt_negl, dt_negl]; omega
theorem dt_scll (u : Int) (w p : P) : dt (scl u w) p = u * dt w p := by unfold dt scl; grind
theorem Brd.scl {R : List P} {w : P} {m u : Int} (hu : 0 ≤ u) (h : Brd R w m) : Brd R (scl u w) (u * m) := by
  obtain ⟨⟨p, hp, q, hq, e⟩, f⟩ := h
  refine ⟨⟨p, hp, q, hq, by rw [dt_scll, dt_scll, e, Int.mul_sub]⟩, fun r hr s hs => ?_⟩
  rw [dt_scll, dt_scll, ← Int.mul_sub]
  exact Int.mul_le_mul_of_nonneg_left (f r hr s hs) hu
theorem len_det : ∀ ds M Q, S_det ds M Q → ds.length = 1 := fun _ _ _ ⟨_, _, e, _⟩ => by rw [e]; rfl
theorem len_ledR : ∀ ds M Q, S_ledR ds M Q → ds.length = 2 := fun _ _ _ ⟨_, _, _, _, e, _⟩ => by rw [e]; rfl
theorem len_great : ∀ ds M Q, S_great ds M Q → ds.length = 1 := fun _ _ _ ⟨_, _, e, _⟩ => by rw [e]; rfl
end DL

set_option Elab.async false
set_option linter.all false
set_option maxRecDepth 100000
set_option maxHeartbeats 4000000
set_option exponentiation.threshold 3000
namespace DL
open PySem L2 Hull PyProof PyProof.Rows
def ir_law_some_rim_6 : IS :=
  .seq (.ret (.call "_law_rim" (.cons (.var 0) (.cons (.ix (.lst (.cons (.int 12) (.cons (.int 24) .nil))) (.call "_law_draw" (.cons (.var 0) (.cons (.int 2) .nil)))) (.cons (.bl false) .nil))))) .skip
def ir_law_some_rim_5 : IS :=
  .seq (.ret (.call "_law_great" (.cons (.var 0) .nil))) .skip
def ir_law_some_rim_4 : IS :=
  .seq (.ite (.cmp .Eq (.var 1) (.int 1)) ir_law_some_rim_5 .skip) ir_law_some_rim_6
def ir_law_some_rim_3 : IS :=
  .seq (.ret (.call "sum_of" (.cons (.call "_law_wrapped" (.cons (.call "_law_bowl" (.cons (.var 0) (.cons (.int 24) .nil))) .nil)) (.cons (.call "_law_wrapped" (.cons (.call "_law_even" (.cons (.var 0) (.cons (.int 24) .nil))) .nil)) .nil)))) .skip
def ir_law_some_rim_2 : IS :=
  .seq (.ite (.cmp .Eq (.var 1) (.int 0)) ir_law_some_rim_3 .skip) ir_law_some_rim_4
def ir_law_some_rim_1 : IS :=
  .seq (.asg (.v 1) (.call "_law_draw" (.cons (.var 0) (.cons (.int 8) .nil)))) ir_law_some_rim_2
abbrev ir_law_some_rim : IS := ir_law_some_rim_1
-- slots ['_law_feed_here', '_law_way_here']
def S_some : DSpec := fun ds M Q => ∃ n a : Nat, ds = [.lst n] ∧ Feed n a M ∧ a < 2 ^ 56 ∧ ∀ (R : List P) (M' : Mem), Fx n (a + 500) M M' → Rim R R → R.length ≤ 62 → (∀ p ∈ R, Sm 180 p) → Q (.tup (R.map pt2)) M'
theorem law_some_ok (G : Gam) (hd : G "_law_draw" = S_draw) (hw : G "_law_wrapped" = S_rim) (hb : G "_law_bowl" = S_bowl) (he : G "_law_even" = S_even) (hs : G "sum_of" = S_sumE) (hg : G "_law_great" = S_great) (hr : G "_law_rim" = S_rimF) : ∀ ds M Q, S_some ds M Q → wpS G ir_law_some_rim (bodyE Q) (startD (2 - ds.length) ds) M := by
  rintro ds M Q ⟨n, a, rfl, F, ha, q⟩
  simp [ir_law_some_rim_1, w_av, startD, hd]
  refine ⟨n, a, 8, rfl, F, by omega, by decide, by decide, fun w M1 w0 w1 f1 => ?_⟩
  simp [ir_law_some_rim_2, w_ite, w_skip]
  by_cases z0 : w = 0
  · simp [z0, ir_law_some_rim_3, w_ret, hb]
    refine ⟨n, a + 1, 24, rfl, f1.feed, by omega, by decide, by decide, fun S l M2 f2 hl gl hne hlen sm => ?_⟩
    simp [hw]
    refine ⟨44, _, S, rfl, .inl ⟨l, rfl, gl⟩, by decide, hne, .inl (by omega), sm, fun R M3 e3 rR => ?_⟩
    have f3 := (f1.trans f2).exx e3
    simp [he]
    refine ⟨n, a + 101, 24, rfl, f3.feed.mono (by omega), by omega, by decide, by decide, fun S' l' M4 f4 hl' gl' hne' hlen' sm' => ?_⟩
    simp [hw]
    refine ⟨44, _, S', rfl, .inl ⟨l', rfl, gl'⟩, by decide, hne', .inl (by omega), sm', fun R' M5 e5 rR' => ?_⟩
    have l1 := rim_len rR
    have l2 := rim_len rR'
    simp [hs]
    refine ⟨44, R, R', rfl, rim_ne rR, rim_ne rR', by omega, by omega, by decide, rim_sm rR sm, rim_sm rR' sm', fun M6 e6 sT => ?_⟩
    have := sumR_len R R'
    exact q _ M6 ((((f3.trans f4).exx e5).exx e6).mono (by omega)) (sum_rim rR.self rR'.self) (by omega) fun p hp => (sT p hp).up (by decide)
  · simp [z0, ir_law_some_rim_4, w_ite, w_skip]
    by_cases z1 : w = 1
    · simp [z1, ir_law_some_rim_5, w_ret, hg]
      exact ⟨n, a + 1, rfl, f1.feed, by omega, fun R M2 f2 r l s => q R M2 ((f1.trans f2).mono (by omega)) r (by omega) s⟩
    · simp [z1, ir_law_some_rim_6, w_ret, hd, sz_eq]
      refine ⟨n, a + 1, 2, rfl, f1.feed.app _, by omega, by decide, by decide, fun r M2 r0 r1 f2 => ?_⟩
      have g2 := Fx.top f1.feed f2
      have f2 := f1.trans f2.tail
      simp [g2]
      have mo : ∃ mo : Nat, atD [D.int 12, .int 24] r = some (.int mo) ∧ 6 ≤ mo ∧ mo ≤ 24 := by
        rcases (by omega : r = 0 ∨ r = 1) with rfl | rfl
        · exact ⟨12, by simp, by decide, by decide⟩
        · exact ⟨24, by simp, by decide, by decide⟩
      obtain ⟨mo, em, m6, m24⟩ := mo
      rw [em]
      simp [hr]
      refine ⟨n, a + 2, mo, rfl, f2.feed, by omega, m6, by omega, fun S R M3 f3 rR hlS sm => ?_⟩
      have l1 := rim_len rR
      exact q R M3 ((f2.trans f3).mono (by omega)) rR.self (by omega) fun p hp => (rim_sm rR sm p hp).up (by decide)
theorem len_some : ∀ ds M Q, S_some ds M Q → ds.length = 1 := fun _ _ _ ⟨_, _, e, _⟩ => by rw [e]; rfl
/-! a number and a fraction, as a text -/
def rs (m p q : Int) : Str := (PyData.tuple [.int m, .tuple [.int p, .int q]]).shown
end DL

open PySem L2
namespace DL.DC
open DL
variable {G : Gam} {ρ : En} {M M' : Mem} {Q : Kn}
/-! tables: what is held, put, told -/
abbrev keys (ls : Tab) : List (Int × Int) := ls.map (·.1)
theorem put_new {ls : Tab} {p : Int × Int} {v : D} (h : p ∉ keys ls) : putP ls p v = ls ++ [(p, v)] := by
  unfold putP
  rw [if_neg]
  intro z
  rw [List.any_eq_true] at z
  obtain ⟨e, he, hp⟩ := z
  exact h (List.mem_map.2 ⟨e, he, by simpa using hp⟩)
/-- a dict's points told -/
theorem keys_pt {ls : Tab} : (ls.map fun e => pt2 e.1) = (keys ls).map pt2 := by
  unfold keys; rw [List.map_map]; rfl
theorem set_dct {n : Nat} {ls : Tab} {p : Int × Int} {v : D} {Q : Mem → Prop} (hm : M[n]? = some (dcD ls)) (hl : ls.length < sizeLine) (q : Q (M.set n (dcD (putP ls p v)))) : setIxD (.dct n) (pt2 p) v M Q :=
  ⟨ls, hm, hl, q⟩
end DL.DC

set_option Elab.async false
set_option linter.all false
set_option maxRecDepth 100000
set_option maxHeartbeats 8000000
set_option exponentiation.threshold 6000
namespace DL.FT
open PySem L2 DL DL.DC Hull PyProof PyProof.Rows
def ir_squared_between_3 : IS :=
  .seq (.ret (.bin .Add (.bin .Mult (.var 2) (.var 2)) (.bin .Mult (.var 3) (.var 3)))) .skip
def ir_squared_between_2 : IS :=
  .seq (.asg (.v 3) (.bin .Sub (.ix (.var 0) (.int 1)) (.ix (.var 1) (.int 1)))) ir_squared_between_3
def ir_squared_between_1 : IS :=
  .seq (.asg (.v 2) (.bin .Sub (.ix (.var 0) (.int 0)) (.ix (.var 1) (.int 0)))) ir_squared_between_2
abbrev ir_squared_between : IS := ir_squared_between_1
-- slots ['one', 'other', 'east', 'north']
def ir_farthest_two_6 : IS :=
  .seq (.ret (.tup (.cons (.var 5) (.cons (.blt .srp (.cons (.compd (.var 6) [6] [6] 2 (.cons (.cmp .Eq (.ix (.var 2) (.var 6)) (.var 5)) .nil)) .nil)) .nil)))) .skip
def ir_farthest_two_5 : IS :=
  .seq (.asg (.v 5) (.blt .max (.cons (.compd (.ix (.var 2) (.var 6)) [6] [6] 2 .nil) .nil))) ir_farthest_two_6
def ir_farthest_two_4 : IS :=
  .seq (.asg (.sub (.var 2) (.tup (.cons (.var 3) (.cons (.var 4) .nil)))) (.call "squared_between" (.cons (.ix (.var 0) (.var 3)) (.cons (.ix (.var 1) (.var 4)) .nil)))) .skip
def ir_farthest_two_3 : IS :=
  .seq (.for_ (.v 4) (.rng1 (.blt .len (.cons (.var 1) .nil))) ir_farthest_two_4) .skip
def ir_farthest_two_2 : IS :=
  .seq (.for_ (.v 3) (.rng1 (.blt .len (.cons (.var 0) .nil))) ir_farthest_two_3) ir_farthest_two_5
def ir_farthest_two_1 : IS :=
  .seq (.asg (.v 2) .dnew) ir_farthest_two_2
abbrev ir_farthest_two : IS := ir_farthest_two_1
-- slots ['one', 'other', 'lengths', 'i', 'j', 'most', 'pair']
/-! a comprehension over a dict whose turns change nothing -/
theorem w_compdV {G : Gam} {elt cond : IE} {vs tg : List Nat} {i n : Nat} {ρ : En} {M : Mem} {Q : Kn} {ls : Tab} (f : Int × Int → Option D) (ev : getV ρ i = some (.dct n)) (eM : M[n]? = some (dcD ls)) (hz : ls.length < sizeLine)
    (he : ∀ p ∈ keys ls, ∀ R : Option D → Mem → Prop, R (f p) (M.set n (dcF ls)) → tgV tg (pt2 p) (wipesV ρ vs) fun ρ' => wpC G cond ρ' (M.set n (dcF ls)) fun b M2 => if b = true then wpE G elt ρ' M2 fun y M3 => R (some y) M3 else R none M2)
    (q : Q (.lst M.length) (M ++ [(keys ls).filterMap f])) : wpE G (.compd elt vs tg i cond) ρ M Q := by
  have hn : n < M.length := (List.getElem?_eq_some_iff.mp eM).1
  have kl : (keys ls).length = ls.length := by unfold keys; exact List.length_map ..
  refine w_compd ev eM hz ⟨fun j acc M' => M' = M.set n (dcF ls) ∧ acc = ((keys ls).take j).filterMap f, ⟨rfl, by simp⟩, ?_, ?_, ?_⟩
  · rintro j acc M' hj ⟨rfl, rfl⟩
    exact ⟨Nat.le_trans (List.length_filterMap_le _ _) (by simp; omega), List.getElem?_set_self hn⟩
  · rintro j x acc M' hx ⟨rfl, rfl⟩
    rw [keys_pt, List.getElem?_map] at hx
    obtain ⟨p, hp, rfl⟩ := Option.map_eq_some_iff.mp hx
    have ht : (keys ls).take (j + 1) = (keys ls).take j ++ [p] := by rw [List.take_add_one, hp]; rfl
    refine he p (List.mem_of_getElem? hp) (fun o M3 => match o with
      | some y => M3 = M.set n (dcF ls) ∧ ((keys ls).take j).filterMap f ++ [y] = ((keys ls).take (j + 1)).filterMap f
      | none => M3 = M.set n (dcF ls) ∧ ((keys ls).take j).filterMap f = ((keys ls).take (j + 1)).filterMap f) ?_
    rw [ht, List.filterMap_append]
    cases h : f p <;> simp [h]
  · rintro acc M' ⟨rfl, rfl⟩
    rw [← kl, List.take_length, List.set_set, List.length_set]
    have e : M.set n (dcD ls) = M := by
      refine List.ext_getElem? fun k => ?_
      by_cases hk : k = n
      · subst hk; rw [List.getElem?_set_self hn, eM]
      · rw [List.getElem?_set_ne (Ne.symm hk)]
    rw [e]
    exact q
/-! two rims: how far apart each two corners are, squared; the most, and where -/
def sq2 (a b : P) : Int := (a.1 - b.1) * (a.1 - b.1) + (a.2 - b.2) * (a.2 - b.2)
def dq (A B : List P) (p : P) : Int := sq2 (cyc A p.1.toNat) (cyc B p.2.toNat)
def prow (i j : Nat) : List P := (List.range j).map fun (k : Nat) => ((i : Int), (k : Int))
def prs (m n : Nat) : List P := (List.range m).flatMap fun i => prow i n
theorem prow_succ (i j : Nat) : prow i (j + 1) = prow i j ++ [((i : Int), (j : Int))] := by unfold prow; rw [List.range_succ, List.map_append]; rfl
theorem prs_succ (m n : Nat) : prs (m + 1) n = prs m n ++ prow m n := by unfold prs; rw [List.range_succ, List.flatMap_append]; simp
theorem mem_prow {i j : Nat} {p : P} : p ∈ prow i j ↔ ∃ k, k < j ∧ p = ((i : Int), (k : Int)) := by
  unfold prow
  simp only [List.mem_map, List.mem_range]
  exact ⟨fun ⟨k, h, e⟩ => ⟨k, h, e.symm⟩, fun ⟨k, h, e⟩ => ⟨k, h, e.symm⟩⟩
theorem mem_prs {m n : Nat} {p : P} : p ∈ prs m n ↔ ∃ i k, i < m ∧ k < n ∧ p = ((i : Int), (k : Int)) := by
  unfold prs
  simp only [List.mem_flatMap, List.mem_range, mem_prow]
  exact ⟨fun ⟨i, h, k, g, e⟩ => ⟨i, k, h, g, e⟩, fun ⟨i, k, h, g, e⟩ => ⟨i, h, k, g, e⟩⟩
theorem prow_len (i j : Nat) : (prow i j).length = j := by unfold prow; simp
theorem prs_len (n : Nat) : ∀ m, (prs m n).length = m * n
  | 0 => by simp [prs]
  | m + 1 => by rw [prs_succ, List.length_append, prs_len n m, prow_len, Nat.succ_mul]
theorem prow_srt (i : Nat) : ∀ j, (prow i j).Pairwise Lx
  | 0 => by simp [prow]
  | j + 1 => by
    rw [prow_succ, List.pairwise_append]
    refine ⟨prow_srt i j, List.pairwise_singleton _ _, fun a ha b hb => ?_⟩
    obtain ⟨k, hk, rfl⟩ := mem_prow.mp ha
    rw [List.mem_singleton.mp hb]
    unfold Lx
    right
    exact ⟨rfl, by simp only; omega⟩
theorem prs_srt (n : Nat) : ∀ m, (prs m n).Pairwise Lx
  | 0 => by simp [prs]
  | m + 1 => by
    rw [prs_succ, List.pairwise_append]
    refine ⟨prs_srt n m, prow_srt m n, fun a ha b hb => ?_⟩
    obtain ⟨i, k, hi, hk, rfl⟩ := mem_prs.mp ha
    obtain ⟨k', hk', rfl⟩ := mem_prow.mp hb
    unfold Lx
    left
    simp only; omega
/-- sorted, strictly: one list alone of these -/
theorem srt_uniq : ∀ {a b : List P}, a.Pairwise Lx → (b.Pairwise fun x y => ¬ Lx y x) → b.Perm a → b = a
  | [], b, _, _, p => List.Perm.eq_nil p
  | x :: a, [], _, _, p => by have := p.length_eq; simp at this
  | x :: a, y :: b, h1, h2, p => by
    obtain ⟨x1, x2⟩ := List.pairwise_cons.mp h1
    obtain ⟨y1, y2⟩ := List.pairwise_cons.mp h2
    have e : y = x := by
      rcases List.mem_cons.mp (p.mem_iff.mp (List.mem_cons_self (a := y) (l := b))) with e | hy
      · exact e
      · rcases List.mem_cons.mp (p.mem_iff.mpr (List.mem_cons_self (a := x) (l := a))) with e | hx
        · exact e.symm
        · exact (y1 x hx (x1 y hy)).elim
    subst e
    rw [srt_uniq x2 y2 p.cons_inv]
def IsMost (A B : List P) (m : Int) : Prop := (∃ p ∈ prs A.length B.length, dq A B p = m) ∧ ∀ p ∈ prs A.length B.length, dq A B p ≤ m
theorem IsMost.uniq {A B : List P} {m k : Int} (h : IsMost A B m) (g : IsMost A B k) : m = k := by
  obtain ⟨⟨p, hp, rfl⟩, h2⟩ := h
  obtain ⟨⟨r, hr, rfl⟩, g2⟩ := g
  have := h2 r hr
  have := g2 p hp
  omega
def pairsM (A B : List P) (m : Int) : List P := (prs A.length B.length).filter fun p => decide (dq A B p = m)
def tb (A B : List P) (ps : List P) : Tab := ps.map fun p => (p, .int (dq A B p))
theorem keys_tb (A B ps : List P) : keys (tb A B ps) = ps := by
  unfold keys tb
  rw [List.map_map]
  conv => rhs; rw [← List.map_id ps]
  rfl
theorem val_tb {A B ps : List P} {p : P} (h : p ∈ ps) : valP (tb A B ps) p = some (.int (dq A B p)) := by
  induction ps with
  | nil => simp at h
  | cons r ps ih =>
    unfold valP tb at *
    rw [List.map_cons, List.find?_cons]
    by_cases e : r = p
    · simp [e]
    · rcases List.mem_cons.mp h with g | g
      · exact (e g.symm).elim
      · have := ih g
        simp only [e, decide_false]
        exact this
theorem tb_put {A B ps : List P} {p : P} (h : p ∉ ps) : putP (tb A B ps) p (.int (dq A B p)) = tb A B (ps ++ [p]) := by
  rw [put_new (by rw [keys_tb]; exact h)]
  unfold tb
  rw [List.map_append]
  rfl
theorem tb_len (A B ps : List P) : (tb A B ps).length = ps.length := by unfold tb; simp
theorem filt_map (A B : List P) (m : Int) (ps : List P) : ps.filterMap (fun p => if dq A B p = m then some (pt2 p) else none) = (ps.filter fun p => decide (dq A B p = m)).map pt2 := by
  induction ps with
  | nil => rfl
  | cons p ps ih =>
    rw [List.filterMap_cons, List.filter_cons]
    by_cases c : dq A B p = m
    · simp [c]; simpa using ih
    · simp [c]; simpa using ih
def S_sqb : DSpec := fun ds M Q => ∃ (k : Nat) (a b : P), ds = [pt2 a, pt2 b] ∧ k ≤ 200000 ∧ Sm k a ∧ Sm k b ∧ Q (.int (sq2 a b)) M
theorem squared_between_ok (G : Gam) : ∀ ds M Q, S_sqb ds M Q → wpS G ir_squared_between (bodyE Q) (startD (4 - ds.length) ds) M := by
  rintro ds M Q ⟨k, a, b, rfl, hk, ha, hb, q⟩
  have l1 := lg_of (sub_lt' ha.1 hb.1)
  have l2 := lg_of (sub_lt' ha.2 hb.2)
  simp -implicitDefEqProofs [ir_squared_between_1, w_av, startD]
  simp -implicitDefEqProofs [ir_squared_between_2, w_av]
  simp -implicitDefEqProofs [ir_squared_between_3, w_ret]
  exact ⟨by omega, by omega, q⟩
def S_ft : DSpec := fun ds M Q => ∃ (k : Nat) (A B : List P), ds = [.tup (A.map pt2), .tup (B.map pt2)] ∧ k ≤ 200000 ∧ A ≠ [] ∧ B ≠ [] ∧ A.length ≤ 70 ∧ B.length ≤ 70 ∧ (∀ p ∈ A, Sm k p) ∧ (∀ p ∈ B, Sm k p) ∧
  ∀ (m : Int) (l : Nat) M', Ex M M' → M.length ≤ l → IsMost A B m → M'[l]? = some ((pairsM A B m).map pt2) → Q (.tup [.int m, .lst l]) M'
def FtI (M : Mem) (A B : List P) (i : Nat) (ρ : En) (M1 : Mem) : Prop := ∃ o3 o4 : Option D, M1 = M ++ [dcD (tb A B (prs i B.length))] ∧ ρ = [some (.tup (A.map pt2)), some (.tup (B.map pt2)), some (.dct M.length), o3, o4, none, none]
def FtJ (M : Mem) (A B : List P) (i j : Nat) (ρ : En) (M1 : Mem) : Prop := ∃ o4 : Option D, M1 = M ++ [dcD (tb A B (prs i B.length ++ prow i j))] ∧ ρ = [some (.tup (A.map pt2)), some (.tup (B.map pt2)), some (.dct M.length), some (.int (i : Int)), o4, none, none]
theorem most_ex {A B : List P} (hA : A ≠ []) (hB : B ≠ []) : prs A.length B.length ≠ [] := by
  have a0 := List.length_pos_iff.mpr hA
  have b0 := List.length_pos_iff.mpr hB
  exact List.ne_nil_of_mem (mem_prs.mpr ⟨0, 0, a0, b0, rfl⟩)
theorem farthest_two_ok (G : Gam) (h : G "squared_between" = S_sqb) : ∀ ds M Q, S_ft ds M Q → wpS G ir_farthest_two (bodyE Q) (startD (7 - ds.length) ds) M := by
  rintro ds M Q ⟨k, A, B, rfl, hk, hA, hB, lA, lB, sA, sB, q⟩
  have few : ∀ i j, i ≤ A.length → j ≤ B.length → (prs i B.length ++ prow i j).length ≤ 5040 := fun i j hi hj => by
    rw [List.length_append, prs_len, prow_len]
    have : i * B.length ≤ 70 * 70 := Nat.mul_le_mul (by omega) lB
    omega
  simp -implicitDefEqProofs [ir_farthest_two_1, w_av, startD]
  simp -implicitDefEqProofs only [ir_farthest_two_2]
  refine w_for ?_
  simp -implicitDefEqProofs
  refine ⟨by omega, FtI M A B, ⟨none, none, by simp [prs, tb], rfl⟩, ?_, ?_⟩
  · rintro i x ρ M1 hx ⟨o3, o4, rfl, rfl⟩
    rw [rngD_get] at hx
    split at hx
    · rename_i hi
      cases hx
      simp -implicitDefEqProofs only [ir_farthest_two_3]
      refine w_for ?_
      simp -implicitDefEqProofs
      refine ⟨by omega, FtJ M A B i, ⟨o4, by simp [prow], rfl⟩, ?_, ?_⟩
      · rintro j x ρ M1 hx ⟨o4, rfl, rfl⟩
        rw [rngD_get] at hx
        split at hx
        · rename_i hj
          cases hx
          have ca := cyc_mem (ps := A) (by omega) i
          have cb := cyc_mem (ps := B) (by omega) j
          simp -implicitDefEqProofs [ir_farthest_two_4, w_as, w_skip, at_cyc hi, at_cyc hj, h]
          refine ⟨k, cyc A i, cyc B j, rfl, hk, sA _ ca, sB _ cb, ?_⟩
          have gd : (M ++ [dcD (tb A B (prs i B.length ++ prow i j))])[M.length]? = some (dcD (tb A B (prs i B.length ++ prow i j))) := ga_len
          have fr : ((i : Int), (j : Int)) ∉ prs i B.length ++ prow i j := fun z => by
            rcases List.mem_append.mp z with z | z
            · obtain ⟨i', k', h1, h2, e⟩ := mem_prs.mp z
              simp only [Prod.mk.injEq] at e
              omega
            · obtain ⟨k', h2, e⟩ := mem_prow.mp z
              simp only [Prod.mk.injEq] at e
              omega
          have eq : sq2 (cyc A i) (cyc B j) = dq A B ((i : Int), (j : Int)) := by unfold dq; simp
          rw [eq]
          simp -implicitDefEqProofs [sz_eq]
          refine set_dct (p := ((i : Int), (j : Int))) gd (by rw [tb_len, sz_eq]; have := few i j (by omega) (by omega); omega) ?_
          rw [tb_put fr]
          refine ⟨_, ?_, rfl⟩
          rw [List.set_append_right _ _ (Nat.le_refl _), Nat.sub_self, List.set_cons_zero, List.append_assoc, ← prow_succ]
        · cases hx
      · rintro ρ M1 ⟨o4, rfl, rfl⟩
        simp -implicitDefEqProofs only [rngD_len, w_skip]
        exact ⟨_, _, by rw [prs_succ], rfl⟩
    · cases hx
  · rintro ρ M1 ⟨o3, o4, rfl, rfl⟩
    rw [rngD_len]
    have gd : (M ++ [dcD (tb A B (prs A.length B.length))])[M.length]? = some (dcD (tb A B (prs A.length B.length))) := ga_len
    have e1 : Ex M (M ++ [dcD (tb A B (prs A.length B.length))]) := ⟨_, rfl⟩
    have few1 : (prs A.length B.length).length ≤ 5040 := by
      rw [prs_len]
      have : A.length * B.length ≤ 70 * 70 := Nat.mul_le_mul lA lB
      omega
    have srt := prs_srt B.length A.length
    have P0 := most_ex hA hB
    have lm : (M ++ [dcD (tb A B (prs A.length B.length))]).length = M.length + 1 := by simp
    generalize M ++ [dcD (tb A B (prs A.length B.length))] = M1 at *
    simp -implicitDefEqProofs only [ir_farthest_two_5, w_av, wpE_blt, wpA_cons, wpA_nil]
    refine w_compdV (ls := tb A B (prs A.length B.length)) (fun p => some (.int (dq A B p))) rfl gd (by rw [tb_len, sz_eq]; omega) ?_ ?_
    · rw [keys_tb]
      intro p hp R hR
      have gf : (M1.set M.length (dcF (tb A B (prs A.length B.length))))[M.length]? = some (dcF (tb A B (prs A.length B.length))) := List.getElem?_set_self (by omega)
      simp -implicitDefEqProofs
      exact ⟨_, _, _, rfl, .inr gf, val_tb hp, hR⟩
    rw [keys_tb]
    have el : (prs A.length B.length).filterMap (fun p => some (D.int (dq A B p))) = ((prs A.length B.length).map (dq A B)).map D.int := by rw [List.filterMap_eq_map', List.map_map]; rfl
    rw [el]
    simp -implicitDefEqProofs only [bfD_max1]
    refine ⟨_, ga_len, by rw [List.length_map]; exact List.length_pos_iff.mpr P0, fun m hm hmax => ?_⟩
    have im : IsMost A B m := by
      obtain ⟨p, hp, e⟩ := List.mem_map.mp hm
      exact ⟨⟨p, hp, e⟩, fun p hp => hmax _ (List.mem_map_of_mem hp)⟩
    have gd := ga_lt (x := ((prs A.length B.length).map (dq A B)).map D.int) gd
    have e2 := e1.app (((prs A.length B.length).map (dq A B)).map D.int)
    have lm2 : M.length < (M1 ++ [((prs A.length B.length).map (dq A B)).map D.int]).length := by simp; omega
    generalize M1 ++ [((prs A.length B.length).map (dq A B)).map D.int] = M2 at *
    simp -implicitDefEqProofs only [ir_farthest_two_6, w_ret, wpE_tup, wpA_cons, wpA_nil, wpE_var, setV_0, setV_s, getV_0, getV_s, onV_some', wpE_blt]
    refine w_compdV (ls := tb A B (prs A.length B.length)) (fun p => if dq A B p = m then some (pt2 p) else none) rfl gd (by rw [tb_len, sz_eq]; omega) ?_ ?_
    · rw [keys_tb]
      intro p hp R hR
      have gf : (M2.set M.length (dcF (tb A B (prs A.length B.length))))[M.length]? = some (dcF (tb A B (prs A.length B.length))) := List.getElem?_set_self lm2
      simp -implicitDefEqProofs
      refine ⟨_, _, _, rfl, .inr gf, val_tb hp, ?_⟩
      by_cases c : dq A B p = m
      · simp -implicitDefEqProofs [c] at hR ⊢; exact hR
      · simp -implicitDefEqProofs [c] at hR ⊢; exact hR
    rw [keys_tb, filt_map]
    have gs : (M2 ++ [(pairsM A B m).map pt2])[M2.length]? = some ((pairsM A B m).map pt2) := ga_len
    have e3 := e2.app ((pairsM A B m).map pt2)
    show bfD .srp [.lst M2.length] (M2 ++ [(pairsM A B m).map pt2]) _
    rw [bfD_srp]
    refine ⟨_, gs, fun ms pm hs => ?_⟩
    have es : ms = pairsM A B m := srt_uniq (srt.sublist List.filter_sublist) hs pm
    subst es
    have e4 := e3.app ((pairsM A B m).map pt2)
    have g4 : (M2 ++ [(pairsM A B m).map pt2] ++ [(pairsM A B m).map pt2])[(M2 ++ [(pairsM A B m).map pt2]).length]? = some ((pairsM A B m).map pt2) := ga_len
    have := e3.len
    exact ⟨by rw [sz_eq]; simp, q m _ _ e4 this im g4⟩
theorem len_sqb : ∀ ds M Q, S_sqb ds M Q → ds.length = 2 := fun _ _ _ ⟨_, _, _, e, _⟩ => by rw [e]; rfl
theorem len_ft : ∀ ds M Q, S_ft ds M Q → ds.length = 2 := fun _ _ _ ⟨_, _, _, e, _⟩ => by rw [e]; rfl
end DL.FT

set_option Elab.async false
set_option linter.all false
set_option maxRecDepth 100000
set_option maxHeartbeats 8000000
set_option exponentiation.threshold 6000
namespace T_k30
open PySem L2 DL DL.DC DL.FT Hull PyProof PyProof.Rows
def ir_law_apart_1 : IS :=
  .seq (.ret (.bin .Add (.bin .Mult (.bin .Sub (.ix (.var 1) (.int 0)) (.ix (.var 0) (.int 0))) (.bin .Sub (.ix (.var 1) (.int 0)) (.ix (.var 0) (.int 0)))) (.bin .Mult (.bin .Sub (.ix (.var 1) (.int 1)) (.ix (.var 0) (.int 1))) (.bin .Sub (.ix (.var 1) (.int 1)) (.ix (.var 0) (.int 1)))))) .skip
abbrev ir_law_apart : IS := ir_law_apart_1
-- slots ['_law_one', '_law_two']
def ir_law_due_5 : IS :=
  .seq (.ret (.tup (.cons (.var 4) (.cons (.comp (.tup (.cons (.var 3) (.cons (.var 5) .nil))) [3, 5] [3, 5] (.cons (.var 2) .nil) (.cons (.cmp .Eq (.call "_law_apart" (.cons (.ix (.var 0) (.var 3)) (.cons (.ix (.var 1) (.var 5)) .nil))) (.var 4)) .nil)) .nil)))) .skip
def ir_law_due_4 : IS :=
  .seq (.asg (.v 4) (.blt .max (.cons (.comp (.call "_law_apart" (.cons (.ix (.var 0) (.var 3)) (.cons (.ix (.var 1) (.var 5)) .nil))) [3, 5] [3, 5] (.cons (.var 2) .nil) .nil) .nil))) ir_law_due_5
def ir_law_due_3 : IS :=
  .seq (.ex (.mth .extend (.var 2) (.cons (.comp (.tup (.cons (.var 3) (.cons (.var 5) .nil))) [5] [5] (.rng1 (.blt .len (.cons (.var 1) .nil))) .nil) .nil))) .skip
def ir_law_due_2 : IS :=
  .seq (.for_ (.v 3) (.rng1 (.blt .len (.cons (.var 0) .nil))) ir_law_due_3) ir_law_due_4
def ir_law_due_1 : IS :=
  .seq (.asg (.v 2) (.lst .nil)) ir_law_due_2
abbrev ir_law_due : IS := ir_law_due_1
-- slots ['_law_one', '_law_other', '_law_pairs', '_law_i', '_law_most', '_law_j']
def ir_law_doubled_2 : IS :=
  .seq (.ret (.tup (.cons (.bin .Add (.ix (.var 2) (.int 0)) (.ix (.var 3) (.int 0))) (.cons (.bin .Add (.ix (.var 2) (.int 1)) (.ix (.var 3) (.int 1))) .nil)))) .skip
def ir_law_doubled_1 : IS :=
  .seq (.par [2, 3] (.cons (.ix (.var 1) (.call "_law_draw" (.cons (.var 0) (.cons (.blt .len (.cons (.var 1) .nil)) .nil)))) (.cons (.ix (.var 1) (.call "_law_draw" (.cons (.var 0) (.cons (.blt .len (.cons (.var 1) .nil)) .nil)))) .nil))) ir_law_doubled_2
abbrev ir_law_doubled : IS := ir_law_doubled_1
-- slots ['_law_feed_here', '_law_rim_here', '_law_one', '_law_two']
def ir_law_right_8 : IS :=
  .seq (.ret (.bl true)) .skip
def ir_law_right_7 : IS :=
  .seq (.ex (.mth .append (.ix (.var 4) (.int 1)) (.cons (.tup (.cons (.int 0) (.cons (.int 0) .nil))) .nil))) .skip
def ir_law_right_6 : IS :=
  .seq (.ret (.bl false)) .skip
def ir_law_right_5 : IS :=
  .seq (.ite (.cmp .NotEq (.blt .repr (.cons (.var 4) .nil)) (.ix (.var 1) (.var 3))) ir_law_right_6 .skip) ir_law_right_7
def ir_law_right_4 : IS :=
  .seq (.asg (.v 4) (.call "farthest_two" (.cons (.ix (.ix (.var 0) (.var 3)) (.int 0)) (.cons (.ix (.ix (.var 0) (.var 3)) (.int 1)) .nil)))) ir_law_right_5
def ir_law_right_3 : IS :=
  .seq (.for_ (.v 3) (.rng1 (.blt .len (.cons (.var 0) .nil))) ir_law_right_4) .skip
def ir_law_right_2 : IS :=
  .seq (.for_ (.v 2) (.rng1 (.int 2)) ir_law_right_3) ir_law_right_8
def ir_law_right_1 : IS :=
  .seq (.asg (.v 1) (.comp (.blt .repr (.cons (.call "_law_due" (.cons (.var 5) (.cons (.var 6) .nil))) .nil)) [5, 6] [5, 6] (.cons (.var 0) .nil) .nil)) ir_law_right_2
abbrev ir_law_right : IS := ir_law_right_1
-- slots ['_law_cases', '_law_dues', '_law_again', '_law_k', '_law_told', '_law_one', '_law_other']
def ir_law_11 : IS :=
  .seq (.ret (.bl true)) .skip
def ir_law_10 : IS :=
  .seq (.ret (.bl false)) .skip
def ir_law_9 : IS :=
  .seq (.ite (.cmp .Gt (.call "_law_apart" (.cons (.call "_law_doubled" (.cons (.var 1) (.cons (.var 3) .nil))) (.cons (.call "_law_doubled" (.cons (.var 1) (.cons (.var 4) .nil))) .nil))) (.bin .Mult (.int 4) (.var 5))) ir_law_10 .skip) .skip
def ir_law_8 : IS :=
  .seq (.for_ (.v 6) (.rng1 (.int 4)) ir_law_9) .skip
def ir_law_7 : IS :=
  .seq (.asg (.v 5) (.ix (.call "farthest_two" (.cons (.var 3) (.cons (.var 4) .nil))) (.int 0))) ir_law_8
def ir_law_6 : IS :=
  .seq (.ret (.bl false)) .skip
def ir_law_5 : IS :=
  .seq (.ite (.not (.call "_law_right" (.cons (.lst (.cons (.tup (.cons (.var 3) (.cons (.var 4) .nil))) (.cons (.tup (.cons (.var 4) (.cons (.var 3) .nil))) (.cons (.tup (.cons (.var 3) (.cons (.var 3) .nil))) .nil)))) .nil))) ir_law_6 .skip) ir_law_7
def ir_law_4 : IS :=
  .seq (.asg (.v 4) (.call "_law_rim" (.cons (.var 1) (.cons (.ix (.lst (.cons (.int 6) (.cons (.int 24) .nil))) (.call "_law_draw" (.cons (.var 1) (.cons (.int 2) .nil)))) (.cons (.bl false) .nil))))) ir_law_5
def ir_law_3 : IS :=
  .seq (.asg (.v 3) (.call "_law_some_rim" (.cons (.var 1) .nil))) ir_law_4
def ir_law_2 : IS :=
  .seq (.for_ (.v 2) (.rng1 (.int 2)) ir_law_3) ir_law_11
def ir_law_1 : IS :=
  .seq (.asg (.v 1) (.call "_law_feed" (.cons (.var 0) .nil))) ir_law_2
abbrev ir_law : IS := ir_law_1
-- slots ['_law_script', '_law_feed_here', '_law_lap', '_law_one', '_law_other', '_law_most', '_law_k']
theorem fm_congr {α β : Type} {f g : α → Option β} : ∀ {l : List α}, (∀ x ∈ l, f x = g x) → l.filterMap f = l.filterMap g
  | [], _ => rfl
  | a :: l, h => by rw [List.filterMap_cons, List.filterMap_cons, h a (by simp), fm_congr fun x hx => h x (by simp [hx])]
theorem law_apart_ok (G : Gam) : ∀ ds M Q, S_aprt ds M Q → wpS G ir_law_apart (bodyE Q) (startD (2 - ds.length) ds) M := by
  rintro ds M Q ⟨k, a, b, rfl, hk, ha, hb, q⟩
  have l1 := lg_of (sub_lt' hb.1 ha.1)
  have l2 := lg_of (sub_lt' hb.2 ha.2)
  simp [ir_law_apart_1, w_ret, startD]
  exact ⟨by omega, by omega, q⟩
def S_dueF : DSpec := fun ds M Q => ∃ (k : Nat) (A B : List P), ds = [.tup (A.map pt2), .tup (B.map pt2)] ∧ k ≤ 1000 ∧ A ≠ [] ∧ B ≠ [] ∧ A.length ≤ 70 ∧ B.length ≤ 70 ∧ (∀ p ∈ A, Sm k p) ∧ (∀ p ∈ B, Sm k p) ∧
  ∀ (m : Int) (l : Nat) M', Ex M M' → M.length ≤ l → IsMost A B m → M'[l]? = some ((pairsM A B m).map pt2) → Q (.tup [.int m, .lst l]) M'
def DuI (M : Mem) (A B : List P) (i : Nat) (ρ : En) (M1 : Mem) : Prop := Ex M M1 ∧ ∃ o3 : Option D, M1[M.length]? = some ((prs i B.length).map pt2) ∧ ρ = [some (.tup (A.map pt2)), some (.tup (B.map pt2)), some (.lst M.length), o3, none, none]
theorem apart_sq (a b : P) : ap a b = sq2 a b := by unfold sq2 ap; grind
theorem law_due_ok (G : Gam) (h : G "_law_apart" = S_aprt) : ∀ ds M Q, S_dueF ds M Q → wpS G ir_law_due (bodyE Q) (startD (6 - ds.length) ds) M := by
  rintro ds M Q ⟨k, A, B, rfl, hk, hA, hB, lA, lB, sA, sB, q⟩
  have few : ∀ i, i ≤ A.length → (prs i B.length).length ≤ 4900 := fun i hi => by
    rw [prs_len]
    have : i * B.length ≤ 70 * 70 := Nat.mul_le_mul (by omega) lB
    omega
  simp -implicitDefEqProofs [ir_law_due_1, w_av, startD, sz_eq]
  have g1 : (M ++ [([] : List D)])[M.length]? = some ((prs 0 B.length).map pt2) := ga_len
  have e1 : Ex M (M ++ [([] : List D)]) := ⟨_, rfl⟩
  generalize M ++ [([] : List D)] = M1 at *
  simp -implicitDefEqProofs only [ir_law_due_2]
  refine w_for ?_
  simp -implicitDefEqProofs
  refine ⟨by omega, DuI M A B, ⟨e1, none, g1, rfl⟩, ?_, ?_⟩
  · rintro i x ρ M2 hx ⟨e2, o3, g2, rfl⟩
    rw [rngD_get] at hx
    split at hx
    · rename_i hi
      cases hx
      simp -implicitDefEqProofs only [ir_law_due_3, w_ex, w_skip, wpE_mth, wpE_var, setV_0, setV_s, getV_0, getV_s, onV_some', wpA_cons, wpA_nil]
      refine ⟨⟨_, rfl⟩, ?_⟩
      refine w_compX (xs := rngD 0 B.length) (src := .rng 0 B.length) (fun y => match y with | .int j => some (pt2 ((i : Int), j)) | _ => none) (fun S hS => ?_) (fun _ _ => rfl) (by rw [rngD_len, sz_eq]; omega) ?_ ?_
      · simp -implicitDefEqProofs
        exact ⟨by omega, by simpa using hS⟩
      · intro y hy M6 e6 T hT
        obtain ⟨j, hj, rfl⟩ := rngD_mem hy
        have hT := hT M6 (Ex.refl _)
        simp -implicitDefEqProofs [sz_eq]
        exact hT
      · intro M3 e3
        have el : (rngD 0 B.length).filterMap (fun y => match y with | .int j => some (pt2 ((i : Int), j)) | _ => none) = (prow i B.length).map pt2 := by
          rw [rngD_map, List.filterMap_map]
          unfold prow
          rw [List.map_map, ← List.filterMap_eq_map']
          refine fm_congr fun j _ => ?_
          simp
        rw [el]
        have g3 := ga_lt (x := (prow i B.length).map pt2) (e3.get g2)
        have gp : (M3 ++ [(prow i B.length).map pt2])[M3.length]? = some ((prow i B.length).map pt2) := ga_len
        have e3 := (e2.trans e3).app ((prow i B.length).map pt2)
        generalize M3 ++ [(prow i B.length).map pt2] = M4 at *
        generalize M3.length = kp at *
        rw [mfD_extend, g3]
        simp -implicitDefEqProofs only [onV_some']
        rw [gp]
        simp -implicitDefEqProofs only [onV_some']
        refine ⟨by rw [List.length_map, List.length_map, prow_len, sz_eq]; have := few i (by omega); omega, e3.set (Nat.le_refl _), _, ?_, rfl⟩
        rw [gs_self g3, prs_succ, List.map_append]
    · cases hx
  · rintro ρ M2 ⟨e2, o3, g2, rfl⟩
    rw [rngD_len] at g2
    have few1 := few A.length (Nat.le_refl _)
    have P0 := most_ex hA hB
    have at2 : ∀ p ∈ prs A.length B.length, atD (A.map pt2) p.1 = some (pt2 (cyc A p.1.toNat)) ∧ atD (B.map pt2) p.2 = some (pt2 (cyc B p.2.toNat)) ∧ cyc A p.1.toNat ∈ A ∧ cyc B p.2.toNat ∈ B := fun p hp => by
      obtain ⟨i, j, hi, hj, rfl⟩ := mem_prs.mp hp
      exact ⟨at_cyc hi, at_cyc hj, cyc_mem (by omega) _, cyc_mem (by omega) _⟩
    simp -implicitDefEqProofs only [ir_law_due_4, w_av, wpE_blt, wpA_cons, wpA_nil]
    refine w_compX (xs := (prs A.length B.length).map pt2) (src := .val (.lst M.length)) (fun z => some (.int (dq A B (unpt z)))) (fun S hS => by simp -implicitDefEqProofs [g2]; exact hS) (fun M1 e1 => e1.get g2) (by rw [List.length_map, sz_eq]; omega) ?_ ?_
    · intro z hz M3 e3 T hT
      obtain ⟨p, hp, rfl⟩ := List.mem_map.mp hz
      obtain ⟨a1, a2, m1, m2⟩ := at2 p hp
      have hT := hT M3 (Ex.refl _)
      rw [unpt_pt] at hT
      simp -implicitDefEqProofs [a1, a2, h]
      refine ⟨k, cyc A p.1.toNat, cyc B p.2.toNat, rfl, by omega, sA _ m1, sB _ m2, ?_⟩
      rw [apart_sq]
      exact hT
    intro M3 e3
    rw [map_pts (f := fun p => D.int (dq A B p))]
    have gm : (M3 ++ [(prs A.length B.length).map fun p => D.int (dq A B p)])[M3.length]? = some (((prs A.length B.length).map (dq A B)).map D.int) := by rw [ga_len, List.map_map]; rfl
    have g3 := ga_lt (x := (prs A.length B.length).map fun p => D.int (dq A B p)) (e3.get g2)
    have e3 := (e2.trans e3).app ((prs A.length B.length).map fun p => D.int (dq A B p))
    generalize M3 ++ [(prs A.length B.length).map fun p => D.int (dq A B p)] = M4 at *
    generalize M3.length = k4 at *
    simp -implicitDefEqProofs only [bfD_max1]
    refine ⟨_, gm, by rw [List.length_map]; exact List.length_pos_iff.mpr P0, fun m hm hmax => ?_⟩
    have im : IsMost A B m := by
      obtain ⟨p, hp, e⟩ := List.mem_map.mp hm
      exact ⟨⟨p, hp, e⟩, fun p hp => hmax _ (List.mem_map_of_mem hp)⟩
    simp -implicitDefEqProofs only [ir_law_due_5, w_ret, wpE_tup, wpA_cons, wpA_nil, wpE_var, setV_0, setV_s, getV_0, getV_s, onV_some']
    refine w_compX (xs := (prs A.length B.length).map pt2) (src := .val (.lst M.length)) (fun z => if dq A B (unpt z) = m then some z else none) (fun S hS => by simp -implicitDefEqProofs [g3]; exact hS) (fun M1 e1 => e1.get g3) (by rw [List.length_map, sz_eq]; omega) ?_ ?_
    · intro z hz M5 e5 T hT
      obtain ⟨p, hp, rfl⟩ := List.mem_map.mp hz
      obtain ⟨a1, a2, m1, m2⟩ := at2 p hp
      have hT := hT M5 (Ex.refl _)
      rw [unpt_pt] at hT
      simp -implicitDefEqProofs [a1, a2, h]
      refine ⟨k, cyc A p.1.toNat, cyc B p.2.toNat, rfl, by omega, sA _ m1, sB _ m2, ?_⟩
      rw [apart_sq]
      have eq : sq2 (cyc A p.1.toNat) (cyc B p.2.toNat) = dq A B p := rfl
      rw [eq]
      by_cases c : dq A B p = m
      · simp -implicitDefEqProofs [c, sz_eq] at hT ⊢; exact hT
      · simp -implicitDefEqProofs [c] at hT ⊢; exact hT
    intro M5 e5
    have ef : ((prs A.length B.length).map pt2).filterMap (fun z => if dq A B (unpt z) = m then some z else none) = (pairsM A B m).map pt2 := by
      rw [List.filterMap_map]
      unfold pairsM
      rw [← filt_map]
      refine fm_congr fun p _ => ?_
      by_cases c : dq A B p = m <;> simp [unpt_pt, c]
    rw [ef]
    simp -implicitDefEqProofs [sz_eq]
    exact q m _ _ ((e3.trans e5).app _) ((e3.trans e5).len) im ga_len
def S_dbl : DSpec := fun ds M Q => ∃ (n a k : Nat) (R : List P), ds = [.lst n, .tup (R.map pt2)] ∧ Feed n a M ∧ a < 2 ^ 50 ∧ R ≠ [] ∧ R.length ≤ 70 ∧ k ≤ 900 ∧ (∀ p ∈ R, Sm k p) ∧ ∀ u v M', Fx n (a + 2) M M' → u ∈ R → v ∈ R → Q (pt2 (u.1 + v.1, u.2 + v.2)) M'
theorem law_doubled_ok (G : Gam) (hd : G "_law_draw" = S_draw) : ∀ ds M Q, S_dbl ds M Q → wpS G ir_law_doubled (bodyE Q) (startD (4 - ds.length) ds) M := by
  rintro ds M Q ⟨n, a, k, R, rfl, F, ha, ne, few, hk, sR, q⟩
  have l0 := List.length_pos_iff.mpr ne
  simp -implicitDefEqProofs [ir_law_doubled_1, w_par, startD, hd]
  refine ⟨n, a, R.length, rfl, F, by omega, by omega, by omega, fun i' M1 i0 i1 f1 => ?_⟩
  obtain ⟨i, rfl⟩ : ∃ i : Nat, i' = (i : Int) := ⟨i'.toNat, by omega⟩
  have hi : i < R.length := by omega
  have ai := at_cyc hi
  simp -implicitDefEqProofs [ai, hd]
  refine ⟨n, a + 1, R.length, rfl, f1.feed, by omega, by omega, by omega, fun j' M2 j0 j1 f2 => ?_⟩
  obtain ⟨j, rfl⟩ : ∃ j : Nat, j' = (j : Int) := ⟨j'.toNat, by omega⟩
  have hj : j < R.length := by omega
  have aj := at_cyc hj
  simp -implicitDefEqProofs [aj]
  simp -implicitDefEqProofs [ir_law_doubled_2, w_ret, sz_eq]
  exact q _ _ M2 ((f1.trans f2).mono (by omega)) (cyc_mem l0 i) (cyc_mem l0 j)
/-! what is told, as a text -/
def pdM (A B : List P) (m : Int) : PyData := .tuple [.int m, .list ((pairsM A B m).map DPt.ptD)]
theorem pd_most {A B : List P} {m : Int} {M : Mem} {l : Nat} (g : M[l]? = some ((pairsM A B m).map pt2)) : PD M (.tup [.int m, .lst l]) (pdM A B m) := .tup (.cons (.int m) (.cons (.lst g (pdl_pts _)) .nil))
theorem sq2_sm {k : Nat} {a b : P} (ha : Sm k a) (hb : Sm k b) : (sq2 a b).natAbs < 2 ^ (2 * k + 3) := by
  have h1 := sub_lt' ha.1 hb.1
  have h2 := sub_lt' ha.2 hb.2
  have m1 := mul_lt h1 h1
  have m2 := mul_lt h2 h2
  unfold sq2
  have e : 2 ^ (2 * k + 3) = 2 ^ (k + 1 + (k + 1)) + 2 ^ (k + 1 + (k + 1)) := by rw [show 2 * k + 3 = k + 1 + (k + 1) + 1 by omega, Nat.pow_succ]; omega
  omega
theorem repr_most {A B : List P} {m : Int} {M : Mem} {l : Nat} {Q : Kn} (hm : m.natAbs < 2 ^ 400) (lA : A.length ≤ 70) (lB : B.length ≤ 70) (g : M[l]? = some ((pairsM A B m).map pt2)) (q : Q (.str (pdM A B m).shown) M) : bfD .repr [.tup [.int m, .lst l]] M Q := by
  have few : (pairsM A B m).length ≤ 4900 := by
    refine Nat.le_trans (List.length_filter_le _ _) ?_
    rw [prs_len]
    exact Nat.mul_le_mul lA lB
  have np : ∀ x ∈ (pairsM A B m).map pt2, Nz 0 M 400 1 2 x := fun x hx => by
    obtain ⟨p, hp, rfl⟩ := List.mem_map.mp hx
    obtain ⟨i, j, hi, hj, rfl⟩ := mem_prs.mp (List.mem_filter.mp hp).1
    have b : ∀ n : Nat, n ≤ 70 → ((n : Int)).natAbs < 2 ^ 400 := fun n h => up_lt (show ((n : Int)).natAbs < 2 ^ 8 by omega) (by decide)
    exact .tup (.cons (w1 := 0) (w2 := 1) (.int (b i (by omega))) (NzL.one (w := 0) (.int (b j (by omega))) (by omega)) (by omega))
  have nz : Nz 0 M 400 3 15010 (.tup [.int m, .lst l]) := .tup (.cons (w1 := 0) (w2 := 14701) (.int hm) (NzL.one (w := 14700) (.lst (Nat.zero_le _) g ((nz_list np (Nat.le_refl _)).mono (Nat.le_refl _) (Nat.le_refl _) (by rw [List.length_map]; omega))) (by omega)) (by omega))
  obtain ⟨p, h1, h2⟩ := nz.repr (by decide) (by decide) (by decide) (by decide)
  have e := PD.uniq h1 (pd_most g)
  subst e
  exact ⟨_, h1, h2.1, h2.2.1, h2.2.2.1, h2.2.2.2, q⟩
theorem ptm_inj : ∀ {R T : List P}, R.map pt2 = T.map pt2 → R = T
  | [], [], _ => rfl
  | [], _ :: _, h => by simp at h
  | _ :: _, [], h => by simp at h
  | a :: R, b :: T, h => by
    rw [List.map_cons, List.map_cons, List.cons.injEq] at h
    rw [pt2_inj h.1, ptm_inj h.2]
def caseD (c : List P × List P) : D := .tup [.tup (c.1.map pt2), .tup (c.2.map pt2)]
structure CaseK (c : List P × List P) : Prop where
  n1 : c.1 ≠ []
  n2 : c.2 ≠ []
  l1 : c.1.length ≤ 70
  l2 : c.2.length ≤ 70
  s1 : ∀ p ∈ c.1, Sm 190 p
  s2 : ∀ p ∈ c.2, Sm 190 p
theorem CaseK.sm {c : List P × List P} (h : CaseK c) {m : Int} (im : IsMost c.1 c.2 m) : m.natAbs < 2 ^ 400 := by
  obtain ⟨⟨p, hp, rfl⟩, _⟩ := im
  obtain ⟨i, j, hi, hj, rfl⟩ := mem_prs.mp hp
  exact up_lt (sq2_sm (h.s1 _ (cyc_mem (by omega) _)) (h.s2 _ (cyc_mem (by omega) _))) (by decide)
def S_rt30 : DSpec := fun ds M Q => ∃ (l : Nat) (cs : List (List P × List P)), ds = [.lst l] ∧ M[l]? = some (cs.map caseD) ∧ cs.length ≤ 10 ∧ (∀ c ∈ cs, CaseK c) ∧ ∀ M', Ex M M' → Q (.bl true) M'
def RtI (M : Mem) (l ld : Nat) (i : Nat) (ρ : En) (M1 : Mem) : Prop := Ex M M1 ∧ ∃ o2 o3 o4 : Option D, ρ = [some (.lst l), some (.lst ld), o2, o3, o4, none, none]
theorem law_right_ok (G : Gam) (h1 : G "_law_due" = S_dueF) (h2 : G "farthest_two" = S_ft) : ∀ ds M Q, S_rt30 ds M Q → wpS G ir_law_right (bodyE Q) (startD (7 - ds.length) ds) M := by
  rintro ds M Q ⟨l, cs, rfl, gl, few, ck, q⟩
  simp -implicitDefEqProofs only [ir_law_right_1, w_av]
  refine w_compG ?_
  simp -implicitDefEqProofs [startD]
  refine ⟨rest_rel (src := .val (.lst l)) (xs := cs.map caseD) (fun x y => ∃ c m, x = caseD c ∧ IsMost c.1 c.2 m ∧ y = .str (pdM c.1 c.2 m).shown) (fun M1 e1 => e1.get gl) (by rw [List.length_map]; omega) ?_ ?_, ⟨_, gl⟩⟩
  · intro x hx M1 T e1 hT
    obtain ⟨c, hc, rfl⟩ := List.mem_map.mp hx
    have k := ck c hc
    simp -implicitDefEqProofs only [caseD]
    simp -implicitDefEqProofs [h1]
    refine ⟨190, c.1, c.2, rfl, by decide, k.n1, k.n2, k.l1, k.l2, k.s1, k.s2, fun m l' M2 e2 hl im g => ?_⟩
    exact repr_most (k.sm im) k.l1 k.l2 g (hT _ M2 e2 ⟨c, m, rfl, im, rfl⟩)
  intro acc M1 e1 hP
  have gd : (M1 ++ [acc])[M1.length]? = some acc := ga_len
  have e1 := e1.app acc
  generalize M1 ++ [acc] = M2 at *
  generalize M1.length = ld at *
  simp -implicitDefEqProofs only [ir_law_right_2, setV_0, setV_s]
  refine w_for ?_
  simp -implicitDefEqProofs
  refine ⟨RtI M2 l ld, ⟨Ex.refl _, none, none, none, rfl⟩, ?_, ?_⟩
  · rintro i x ρ M3 hx ⟨e3, o2, o3, o4, rfl⟩
    rw [rngD_get] at hx
    split at hx
    · rename_i hi
      cases hx
      simp -implicitDefEqProofs only [ir_law_right_3]
      refine w_for ?_
      simp -implicitDefEqProofs [e3.get (e1.get gl)]
      refine ⟨by omega, RtI M2 l ld, ⟨e3, _, o3, o4, rfl⟩, ?_, ?_⟩
      · rintro j x ρ M4 hx ⟨e4, p2, p3, p4, rfl⟩
        rw [rngD_get] at hx
        split at hx
        · rename_i hj
          cases hx
          have hj : j < cs.length := by omega
          have gl4 := e4.get (e1.get gl)
          have gd4 := e4.get gd
          obtain ⟨c, hc⟩ : ∃ c, cs[j]? = some c := ⟨_, List.getElem?_eq_getElem hj⟩
          have k := ck c (List.mem_of_getElem? hc)
          have ac : atD (cs.map caseD) (j : Int) = some (caseD c) := by rw [atD_nat, List.getElem?_map, hc]; rfl
          obtain ⟨y, hy, c', m', ec, im', rfl⟩ : ∃ y, acc[j]? = some y ∧ ∃ c' m, caseD c = caseD c' ∧ IsMost c'.1 c'.2 m ∧ y = .str (pdM c'.1 c'.2 m).shown := by
            have hx : (cs.map caseD)[j]? = some (caseD c) := by rw [List.getElem?_map, hc]; rfl
            obtain ⟨y, hy⟩ : ∃ y, acc[j]? = some y := ⟨_, List.getElem?_eq_getElem (by have := hP.len; rw [List.length_map] at this; omega)⟩
            exact ⟨y, hy, hP.get hx hy⟩
          have ecc : c = c' := by
            obtain ⟨a, b⟩ := c
            obtain ⟨a', b'⟩ := c'
            simp [caseD] at ec
            rw [ptm_inj ec.1, ptm_inj ec.2]
          subst ecc
          have ay : atD acc (j : Int) = some (.str (pdM c.1 c.2 m').shown) := by rw [atD_nat]; exact hy
          simp -implicitDefEqProofs only [ir_law_right_4, w_av]
          simp -implicitDefEqProofs [gl4, ac, caseD, h2]
          refine ⟨190, c.1, c.2, rfl, by decide, k.n1, k.n2, k.l1, k.l2, k.s1, k.s2, fun m lt M5 e5 hl im g => ?_⟩
          have em : m' = m := im'.uniq im
          subst em
          have gd5 := e5.get gd4
          have e5' := e4.trans e5
          simp -implicitDefEqProofs only [ir_law_right_5, w_ite, w_skip, wpE_cmp, wpE_blt, wpA_cons, wpA_nil, wpE_var, setV_0, setV_s, getV_0, getV_s, onV_some', wpT_cmp]
          refine repr_most (k.sm im) k.l1 k.l2 g ?_
          simp -implicitDefEqProofs [gd5, ay]
          simp -implicitDefEqProofs [ir_law_right_7, w_ex, w_skip, g, sz_eq]
          refine ⟨?_, e5'.set (Nat.le_trans e4.len hl), _, _, _, rfl⟩
          have : (pairsM c.1 c.2 m').length ≤ 4900 := by
            refine Nat.le_trans (List.length_filter_le _ _) ?_
            rw [prs_len]
            exact Nat.mul_le_mul k.l1 k.l2
          omega
        · cases hx
      · rintro ρ M4 ⟨e4, p2, p3, p4, rfl⟩
        simp -implicitDefEqProofs only [w_skip]
        exact ⟨e4, _, _, _, rfl⟩
    · cases hx
  · rintro ρ M3 ⟨e3, o2, o3, o4, rfl⟩
    simp -implicitDefEqProofs [ir_law_right_8, w_ret]
    exact q M3 (e1.trans e3)
theorem sq_n (x : Int) : 0 ≤ x * x := by
  rcases Int.le_total 0 x with h | h
  · exact Int.mul_nonneg h h
  · exact Int.mul_nonneg_of_nonpos_of_nonpos h h
theorem sq_half (u v x y : P) : sq2 (u.1 + v.1, u.2 + v.2) (x.1 + y.1, x.2 + y.2) ≤ 2 * sq2 u x + 2 * sq2 v y := by
  have h : ∀ a b : Int, 0 ≤ a * a → (b + 0) = b := fun _ _ _ => by omega
  have n1 : 0 ≤ ((u.1 - x.1) - (v.1 - y.1)) * ((u.1 - x.1) - (v.1 - y.1)) := sq_n _
  have n2 : 0 ≤ ((u.2 - x.2) - (v.2 - y.2)) * ((u.2 - x.2) - (v.2 - y.2)) := sq_n _
  unfold sq2
  simp only
  grind
theorem most_le {A B : List P} {m : Int} (im : IsMost A B m) {u x : P} (hu : u ∈ A) (hx : x ∈ B) : sq2 u x ≤ m := by
  obtain ⟨i, hi, rfl⟩ := List.getElem_of_mem hu
  obtain ⟨j, hj, rfl⟩ := List.getElem_of_mem hx
  have := im.2 _ (mem_prs.mpr ⟨i, j, hi, hj, rfl⟩)
  unfold dq at this
  simp only [Int.toNat_natCast] at this
  have c1 := cyc_lt hi
  have c2 := cyc_lt hj
  rw [List.getElem?_eq_getElem hi] at c1
  rw [List.getElem?_eq_getElem hj] at c2
  rw [Option.some.inj c1, Option.some.inj c2]
  exact this
def S_law : DSpec := fun ds M Q => ∃ ns : List Int, ds = [.scr ns] ∧ ns.length ≤ 63 ∧ M = [] ∧ ∀ M', Q (.bl true) M'
def LwI (n : Nat) (M0 : Mem) (x0 : D) (i : Nat) (ρ : En) (M : Mem) : Prop := Fx n (2000 * i) M0 M ∧ ∃ o2 o3 o4 o5 o6 : Option D, ρ = [some x0, some (.lst n), o2, o3, o4, o5, o6]
def LwJ (n A : Nat) (M0 : Mem) (x0 : D) (R T : List P) (m : Int) (o2 : Option D) (i : Nat) (ρ : En) (M : Mem) : Prop := Fx n (A + 4 * i) M0 M ∧ ∃ o6 : Option D, ρ = [some x0, some (.lst n), o2, some (.tup (R.map pt2)), some (.tup (T.map pt2)), some (.int m), o6]
theorem law_ok (G : Gam) (hfe : G "_law_feed" = S_feed) (hd : G "_law_draw" = S_draw) (hs : G "_law_some_rim" = S_some) (hr : G "_law_rim" = S_rimF) (hrt : G "_law_right" = S_rt30) (hft : G "farthest_two" = S_ft) (ha : G "_law_apart" = S_aprt) (hdb : G "_law_doubled" = S_dbl) : ∀ ds M Q, S_law ds M Q → wpS G ir_law (bodyE Q) (startD (7 - ds.length) ds) M := by
  rintro ds M Q ⟨ns, rfl, hns, rfl, q⟩
  simp -implicitDefEqProofs [ir_law_1, w_av, startD, hfe]
  refine ⟨ns, rfl, hns, fun n M1 hn1 _ F => ?_⟩
  simp -implicitDefEqProofs only [ir_law_2]
  refine w_for ?_
  simp -implicitDefEqProofs
  refine ⟨LwI n M1 (.scr ns), ⟨(Fx.refl F).mono (by omega), none, none, none, none, none, rfl⟩, ?_, ?_⟩
  · rintro i x ρ M2 hx ⟨f2, o2, o3, o4, o5, o6, rfl⟩
    rw [rngD_get] at hx
    split at hx
    · rename_i hi
      cases hx
      simp -implicitDefEqProofs [ir_law_3, w_av, hs]
      refine ⟨n, _, rfl, f2.feed, by omega, fun R M3 f3 r few sR => ?_⟩
      have f3 := f2.trans f3
      simp -implicitDefEqProofs [ir_law_4, w_av, sz_eq, hd]
      have f4 := f3.app [D.int 6, .int 24]
      have g4 : (M3 ++ [[D.int 6, .int 24]])[M3.length]? = some [D.int 6, .int 24] := ga_len
      have l4n : M3.length ≠ n := by have := f3.ln; omega
      generalize M3 ++ [[D.int 6, .int 24]] = M4 at *
      generalize M3.length = l4 at *
      refine ⟨n, _, 2, rfl, f4.feed, by omega, by decide, by decide, fun w M5 w0 w1 f5 => ?_⟩
      have g5 := f5.get g4 l4n
      have f5 := f4.trans f5
      obtain ⟨most, hmo, am⟩ : ∃ most : Nat, (most = 6 ∨ most = 24) ∧ atD [D.int 6, .int 24] w = some (.int (most : Int)) := by
        rcases (by omega : w = 0 ∨ w = 1) with rfl | rfl
        · exact ⟨6, .inl rfl, rfl⟩
        · exact ⟨24, .inr rfl, rfl⟩
      simp -implicitDefEqProofs [g5, am, hr]
      refine ⟨n, _, most, rfl, f5.feed, by omega, by omega, by omega, fun S T M6 f6 rT lS sS => ?_⟩
      have f6 := f5.trans f6
      have lT := rim_len rT
      have sT := rim_sm rT sS
      have neR := rim_ne r
      have neT := rim_ne rT.self
      have sR' : ∀ p ∈ R, Sm 190 p := fun p h => (sR p h).up (by decide)
      have sT' : ∀ p ∈ T, Sm 190 p := fun p h => (sT p h).up (by decide)
      simp -implicitDefEqProofs [ir_law_5, w_ite, w_skip, sz_eq]
      have f7 := f6.app ([(R, T), (T, R), (R, R)].map caseD)
      have g7 : (M6 ++ [[(R, T), (T, R), (R, R)].map caseD])[M6.length]? = some ([(R, T), (T, R), (R, R)].map caseD) := ga_len
      have ec : [D.tup [.tup (R.map pt2), .tup (T.map pt2)], .tup [.tup (T.map pt2), .tup (R.map pt2)], .tup [.tup (R.map pt2), .tup (R.map pt2)]] = [(R, T), (T, R), (R, R)].map caseD := rfl
      rw [ec, hrt]
      refine ⟨M6.length, [(R, T), (T, R), (R, R)], rfl, g7, by simp, fun c hc => ?_, fun M7 e7 => ?_⟩
      · simp only [List.mem_cons, List.not_mem_nil, or_false] at hc
        rcases hc with rfl | rfl | rfl
        · exact ⟨neR, neT, by simp only; omega, by simp only; omega, sR', sT'⟩
        · exact ⟨neT, neR, by simp only; omega, by simp only; omega, sT', sR'⟩
        · exact ⟨neR, neR, by simp only; omega, by simp only; omega, sR', sR'⟩
      have f7 := f7.exx e7
      simp -implicitDefEqProofs [ir_law_7, w_av, hft]
      refine ⟨190, R, T, rfl, by decide, neR, neT, by omega, by omega, sR', sT', fun m l M8 e8 _ im _ => ?_⟩
      have f8 := f7.exx e8
      simp -implicitDefEqProofs
      simp -implicitDefEqProofs only [ir_law_8]
      refine w_for ?_
      simp -implicitDefEqProofs
      refine ⟨LwJ n (2000 * i + 1000) M1 (.scr ns) R T m (some (.int (i : Int))), ⟨f8.mono (by omega), o6, rfl⟩, ?_, ?_⟩
      · rintro j x ρ M9 hx ⟨f9, p6, rfl⟩
        rw [rngD_get] at hx
        split at hx
        · rename_i hj
          cases hx
          simp -implicitDefEqProofs only [ir_law_9, w_ite, w_skip]
          simp -implicitDefEqProofs [hdb]
          refine ⟨n, _, 190, R, rfl, f9.feed, by omega, neR, by omega, by decide, sR', fun u v M10 f10 hu hv => ?_⟩
          have f10 := f9.trans f10
          simp -implicitDefEqProofs [hdb]
          refine ⟨n, _, 190, T, rfl, f10.feed, by omega, neT, by omega, by decide, sT', fun x y M11 f11 hx hy => ?_⟩
          have f11 := f10.trans f11
          have s2 : ∀ a b : P, Sm 190 a → Sm 190 b → Sm 191 (a.1 + b.1, a.2 + b.2) := fun a b ⟨a1, a2⟩ ⟨b1, b2⟩ => ⟨by simp only; omega, by simp only; omega⟩
          simp -implicitDefEqProofs [ha]
          refine ⟨191, (u.1 + v.1, u.2 + v.2), (x.1 + y.1, x.2 + y.2), rfl, by decide, s2 u v (sR' u hu) (sR' v hv), s2 x y (sT' x hx) (sT' y hy), ?_⟩
          rw [apart_sq]
          have h1 := sq_half u v x y
          have h2 := most_le im hu hx
          have h3 := most_le im hv hy
          have lm : lg m ≤ 400 := lg_of (Nat.lt_of_lt_of_le (CaseK.sm (c := (R, T)) ⟨neR, neT, by simp only; omega, by simp only; omega, sR', sT'⟩ im) (by decide))
          have l4 : lg 4 ≤ 3 := by decide
          have no : ¬ 4 * m < sq2 (u.1 + v.1, u.2 + v.2) (x.1 + y.1, x.2 + y.2) := by omega
          simp -implicitDefEqProofs [no]
          exact ⟨by omega, f11.mono (by omega), _, rfl⟩
        · cases hx
      · rintro ρ M9 ⟨f9, p6, rfl⟩
        rw [rngD_len] at f9
        simp -implicitDefEqProofs only [w_skip]
        exact ⟨f9.mono (by omega), _, _, _, _, _, rfl⟩
    · cases hx
  · rintro ρ M2 ⟨f2, o2, o3, o4, o5, o6, rfl⟩
    simp -implicitDefEqProofs [ir_law_11, w_ret]
    exact q M2
end T_k30

set_option Elab.async false
set_option linter.all false
set_option maxRecDepth 100000
set_option maxHeartbeats 8000000
namespace T_k30
open PySem L2 PySem.Spec PyProof.Rows DL DL.DC DL.FT
abbrev nm_sides : List Str := ["rim", "k"]
theorem sc_sides : FnScope nm_sides ["rim"] (defScope st_sides) := ⟨rfl, rfl, rfl, by decide +kernel, rfl, by decide +kernel, by decide +kernel⟩
theorem ck_sides : chkS nm_sides [] (defScope st_sides) ir_sides (defBody st_sides) = true := by decide +kernel
abbrev nm_squared_between : List Str := ["one", "other", "east", "north"]
theorem sc_squared_between : FnScope nm_squared_between ["one", "other"] (defScope st_squared_between) := ⟨rfl, rfl, rfl, by decide +kernel, rfl, by decide +kernel, by decide +kernel⟩
theorem ck_squared_between : chkS nm_squared_between [] (defScope st_squared_between) ir_squared_between (defBody st_squared_between) = true := by decide +kernel
abbrev nm_farthest_two : List Str := ["one", "other", "lengths", "i", "j", "most", "pair"]
theorem sc_farthest_two : FnScope nm_farthest_two ["one", "other"] (defScope st_farthest_two) := ⟨rfl, rfl, rfl, by decide +kernel, rfl, by decide +kernel, by decide +kernel⟩
theorem ck_farthest_two : chkS nm_farthest_two ["squared_between"] (defScope st_farthest_two) ir_farthest_two (defBody st_farthest_two) = true := by decide +kernel
abbrev nm_determinant : List Str := ["table", "a", "b", "c", "d", "size"]
theorem sc_determinant : FnScope nm_determinant ["table"] (defScope st_determinant) := ⟨rfl, rfl, rfl, by decide +kernel, rfl, by decide +kernel, by decide +kernel⟩
theorem ck_determinant : chkS nm_determinant [] (defScope st_determinant) ir_determinant (defBody st_determinant) = true := by decide +kernel
abbrev nm_led : List Str := ["rim", "table", "size", "a", "b", "c", "d", "corners", "first", "x", "y"]
theorem sc_led : FnScope nm_led ["rim", "table"] (defScope st_led) := ⟨rfl, rfl, rfl, by decide +kernel, rfl, by decide +kernel, by decide +kernel⟩
theorem ck_led : chkS nm_led ["determinant"] (defScope st_led) ir_led (defBody st_led) = true := by decide +kernel
abbrev nm_steps_of : List Str := ["rim", "after", "before"]
def ir_steps_of_1 : IS :=
  .seq (.ret (.comp (.tup (.cons (.bin .Sub (.ix (.var 1) (.int 0)) (.ix (.var 2) (.int 0))) (.cons (.bin .Sub (.ix (.var 1) (.int 1)) (.ix (.var 2) (.int 1))) .nil))) [2, 1] [2, 1] (.cons (.call "sides" (.cons (.var 0) .nil)) .nil) .nil)) .skip
abbrev ir_steps_of : IS := ir_steps_of_1
theorem sc_steps_of : FnScope nm_steps_of ["rim"] (defScope st_steps_of) := ⟨rfl, rfl, rfl, by decide +kernel, rfl, by decide +kernel, by decide +kernel⟩
theorem ck_steps_of : chkS nm_steps_of ["sides"] (defScope st_steps_of) ir_steps_of (defBody st_steps_of) = true := by decide +kernel
abbrev nm_comes_ahead : List Str := ["one", "other"]
def ir_comes_ahead_3 : IS :=
  .seq (.ret (.cmp .Gt (.bin .Sub (.bin .Mult (.ix (.var 0) (.int 0)) (.ix (.var 1) (.int 1))) (.bin .Mult (.ix (.var 0) (.int 1)) (.ix (.var 1) (.int 0)))) (.int 0))) .skip
def ir_comes_ahead_2 : IS :=
  .seq (.ret (.cmp .Gt (.var 0) (.tup (.cons (.int 0) (.cons (.int 0) .nil))))) .skip
def ir_comes_ahead_1 : IS :=
  .seq (.ite (.cmp .NotEq (.cmp .Gt (.var 0) (.tup (.cons (.int 0) (.cons (.int 0) .nil)))) (.cmp .Gt (.var 1) (.tup (.cons (.int 0) (.cons (.int 0) .nil))))) ir_comes_ahead_2 .skip) ir_comes_ahead_3
abbrev ir_comes_ahead : IS := ir_comes_ahead_1
theorem sc_comes_ahead : FnScope nm_comes_ahead ["one", "other"] (defScope st_comes_ahead) := ⟨rfl, rfl, rfl, by decide +kernel, rfl, by decide +kernel, by decide +kernel⟩
theorem ck_comes_ahead : chkS nm_comes_ahead [] (defScope st_comes_ahead) ir_comes_ahead (defBody st_comes_ahead) = true := by decide +kernel
abbrev nm_merged : List Str := ["mine", "theirs", "i", "j", "found", "one", "other", "first", "second"]
theorem sc_merged : FnScope nm_merged ["mine", "theirs"] (defScope st_merged) := ⟨rfl, rfl, rfl, by decide +kernel, rfl, by decide +kernel, by decide +kernel⟩
theorem ck_merged : chkS nm_merged ["comes_ahead"] (defScope st_merged) ir_merged (defBody st_merged) = true := by decide +kernel
abbrev nm_sum_of : List Str := ["one", "other", "x", "y", "found", "step"]
theorem sc_sum_of : FnScope nm_sum_of ["one", "other"] (defScope st_sum_of) := ⟨rfl, rfl, rfl, by decide +kernel, rfl, by decide +kernel, by decide +kernel⟩
theorem ck_sum_of : chkS nm_sum_of ["merged", "steps_of"] (defScope st_sum_of) ir_sum_of (defBody st_sum_of) = true := by decide +kernel
abbrev nm_law_feed : List Str := ["_law_script"]
theorem sc_law_feed : FnScope nm_law_feed ["_law_script"] (defScope st_law_feed) := ⟨rfl, rfl, rfl, by decide +kernel, rfl, by decide +kernel, by decide +kernel⟩
theorem ck_law_feed : chkS nm_law_feed [] (defScope st_law_feed) ir_law_feed (defBody st_law_feed) = true := by decide +kernel
abbrev nm_law_draw : List Str := ["_law_feed_here", "_law_many", "_law_found", "_law_at", "_law_cell", "_law_first"]
theorem sc_law_draw : FnScope nm_law_draw ["_law_feed_here", "_law_many"] (defScope st_law_draw) := ⟨rfl, rfl, rfl, by decide +kernel, rfl, by decide +kernel, by decide +kernel⟩
theorem ck_law_draw : chkS nm_law_draw [] (defScope st_law_draw) ir_law_draw (defBody st_law_draw) = true := by decide +kernel
abbrev nm_law_far : List Str := ["_law_feed_here"]
theorem sc_law_far : FnScope nm_law_far ["_law_feed_here"] (defScope st_law_far) := ⟨rfl, rfl, rfl, by decide +kernel, rfl, by decide +kernel, by decide +kernel⟩
theorem ck_law_far : chkS nm_law_far ["_law_draw"] (defScope st_law_far) ir_law_far (defBody st_law_far) = true := by decide +kernel
abbrev nm_law_turn : List Str := ["_law_one", "_law_two", "_law_three", "_law_first"]
theorem sc_law_turn : FnScope nm_law_turn ["_law_one", "_law_two", "_law_three"] (defScope st_law_turn) := ⟨rfl, rfl, rfl, by decide +kernel, rfl, by decide +kernel, by decide +kernel⟩
theorem ck_law_turn : chkS nm_law_turn [] (defScope st_law_turn) ir_law_turn (defBody st_law_turn) = true := by decide +kernel
abbrev nm_law_apart : List Str := ["_law_one", "_law_two"]
theorem sc_law_apart : FnScope nm_law_apart ["_law_one", "_law_two"] (defScope st_law_apart) := ⟨rfl, rfl, rfl, by decide +kernel, rfl, by decide +kernel, by decide +kernel⟩
theorem ck_law_apart : chkS nm_law_apart [] (defScope st_law_apart) ir_law_apart (defBody st_law_apart) = true := by decide +kernel
abbrev nm_law_wrapped : List Str := ["_law_points", "_law_some", "_law_rim_here", "_law_lap", "_law_here", "_law_best", "_law_one", "_law_side"]
theorem sc_law_wrapped : FnScope nm_law_wrapped ["_law_points"] (defScope st_law_wrapped) := ⟨rfl, rfl, rfl, by decide +kernel, rfl, by decide +kernel, by decide +kernel⟩
theorem ck_law_wrapped : chkS nm_law_wrapped ["_law_apart", "_law_turn"] (defScope st_law_wrapped) ir_law_wrapped (defBody st_law_wrapped) = true := by decide +kernel
abbrev nm_law_led : List Str := ["_law_points", "_law_table", "_law_by", "_law_a", "_law_b", "_law_c", "_law_d", "_law_x", "_law_y"]
theorem sc_law_led : FnScope nm_law_led ["_law_points", "_law_table", "_law_by"] (defScope st_law_led) := ⟨rfl, rfl, rfl, by decide +kernel, rfl, by decide +kernel, by decide +kernel⟩
theorem ck_law_led : chkS nm_law_led [] (defScope st_law_led) ir_law_led (defBody st_law_led) = true := by decide +kernel
abbrev nm_law_bowl : List Str := ["_law_feed_here", "_law_most", "_law_many", "_law_table", "_law_begin", "_law_by", "_law_k"]
theorem sc_law_bowl : FnScope nm_law_bowl ["_law_feed_here", "_law_most"] (defScope st_law_bowl) := ⟨rfl, rfl, rfl, by decide +kernel, rfl, by decide +kernel, by decide +kernel⟩
theorem ck_law_bowl : chkS nm_law_bowl ["_law_led", "_law_draw"] (defScope st_law_bowl) ir_law_bowl (defBody st_law_bowl) = true := by decide +kernel
abbrev nm_law_even : List Str := ["_law_feed_here", "_law_most", "_law_ways", "_law_many", "_law_sizes", "_law_found", "_law_sign", "_law_way", "_law_size"]
theorem sc_law_even : FnScope nm_law_even ["_law_feed_here", "_law_most"] (defScope st_law_even) := ⟨rfl, rfl, rfl, by decide +kernel, rfl, by decide +kernel, by decide +kernel⟩
theorem ck_law_even : chkS nm_law_even ["_law_draw"] (defScope st_law_even) ir_law_even (defBody st_law_even) = true := by decide +kernel
abbrev nm_law_line : List Str := ["_law_feed_here", "_law_x", "_law_y", "_law_a", "_law_b", "_law_k"]
theorem sc_law_line : FnScope nm_law_line ["_law_feed_here"] (defScope st_law_line) := ⟨rfl, rfl, rfl, by decide +kernel, rfl, by decide +kernel, by decide +kernel⟩
theorem ck_law_line : chkS nm_law_line ["_law_draw"] (defScope st_law_line) ir_law_line (defBody st_law_line) = true := by decide +kernel
abbrev nm_law_cloud : List Str := ["_law_feed_here", "_law_most", "_law_way", "_law_long", "_law_wide", "_law_k"]
theorem sc_law_cloud : FnScope nm_law_cloud ["_law_feed_here", "_law_most"] (defScope st_law_cloud) := ⟨rfl, rfl, rfl, by decide +kernel, rfl, by decide +kernel, by decide +kernel⟩
theorem ck_law_cloud : chkS nm_law_cloud ["_law_draw", "_law_far", "_law_even", "_law_bowl", "_law_line"] (defScope st_law_cloud) ir_law_cloud (defBody st_law_cloud) = true := by decide +kernel
abbrev nm_law_rim : List Str := ["_law_feed_here", "_law_most", "_law_is_small", "_law_points", "_law_x", "_law_y"]
theorem sc_law_rim : FnScope nm_law_rim ["_law_feed_here", "_law_most", "_law_is_small"] (defScope st_law_rim) := ⟨rfl, rfl, rfl, by decide +kernel, rfl, by decide +kernel, by decide +kernel⟩
theorem ck_law_rim : chkS nm_law_rim ["_law_wrapped", "_law_cloud"] (defScope st_law_rim) ir_law_rim (defBody st_law_rim) = true := by decide +kernel
abbrev nm_law_great : List Str := ["_law_feed_here", "_law_rim_here", "_law_lap", "_law_a", "_law_b", "_law_c", "_law_d", "_law_k"]
theorem sc_law_great : FnScope nm_law_great ["_law_feed_here"] (defScope st_law_great) := ⟨rfl, rfl, rfl, by decide +kernel, rfl, by decide +kernel, by decide +kernel⟩
theorem ck_law_great : chkS nm_law_great ["_law_draw", "led", "_law_far", "_law_wrapped"] (defScope st_law_great) ir_law_great (defBody st_law_great) = true := by decide +kernel
abbrev nm_law_some_rim : List Str := ["_law_feed_here", "_law_way"]
theorem sc_law_some_rim : FnScope nm_law_some_rim ["_law_feed_here"] (defScope st_law_some_rim) := ⟨rfl, rfl, rfl, by decide +kernel, rfl, by decide +kernel, by decide +kernel⟩
theorem ck_law_some_rim : chkS nm_law_some_rim ["_law_rim", "_law_draw", "_law_great", "sum_of", "_law_wrapped", "_law_bowl", "_law_even"] (defScope st_law_some_rim) ir_law_some_rim (defBody st_law_some_rim) = true := by decide +kernel
abbrev nm_law_due : List Str := ["_law_one", "_law_other", "_law_pairs", "_law_i", "_law_most", "_law_j"]
theorem sc_law_due : FnScope nm_law_due ["_law_one", "_law_other"] (defScope st_law_due) := ⟨rfl, rfl, rfl, by decide +kernel, rfl, by decide +kernel, by decide +kernel⟩
theorem ck_law_due : chkS nm_law_due ["_law_apart"] (defScope st_law_due) ir_law_due (defBody st_law_due) = true := by decide +kernel
abbrev nm_law_doubled : List Str := ["_law_feed_here", "_law_rim_here", "_law_one", "_law_two"]
theorem sc_law_doubled : FnScope nm_law_doubled ["_law_feed_here", "_law_rim_here"] (defScope st_law_doubled) := ⟨rfl, rfl, rfl, by decide +kernel, rfl, by decide +kernel, by decide +kernel⟩
theorem ck_law_doubled : chkS nm_law_doubled ["_law_draw"] (defScope st_law_doubled) ir_law_doubled (defBody st_law_doubled) = true := by decide +kernel
abbrev nm_law_right : List Str := ["_law_cases", "_law_dues", "_law_again", "_law_k", "_law_told", "_law_one", "_law_other"]
theorem sc_law_right : FnScope nm_law_right ["_law_cases"] (defScope st_law_right) := ⟨rfl, rfl, rfl, by decide +kernel, rfl, by decide +kernel, by decide +kernel⟩
theorem ck_law_right : chkS nm_law_right ["farthest_two", "_law_due"] (defScope st_law_right) ir_law_right (defBody st_law_right) = true := by decide +kernel
abbrev nm_law : List Str := ["_law_script", "_law_feed_here", "_law_lap", "_law_one", "_law_other", "_law_most", "_law_k"]
theorem sc_law : FnScope nm_law ["_law_script"] (defScope st_law) := ⟨rfl, rfl, rfl, by decide +kernel, rfl, by decide +kernel, by decide +kernel⟩
theorem ck_law : chkS nm_law ["_law_apart", "_law_doubled", "farthest_two", "_law_right", "_law_rim", "_law_draw", "_law_some_rim", "_law_feed"] (defScope st_law) ir_law (defBody st_law) = true := by decide +kernel
end T_k30

set_option Elab.async false
set_option linter.all false
set_option maxRecDepth 100000
set_option maxHeartbeats 8000000
namespace T_k30
open PySem L2 PySem.Spec PyProof.Rows DL
theorem len_dueF : ∀ ds M Q, S_dueF ds M Q → ds.length = 2 := fun _ _ _ ⟨_, _, _, e, _⟩ => by rw [e]; rfl
theorem len_dbl : ∀ ds M Q, S_dbl ds M Q → ds.length = 2 := fun _ _ _ ⟨_, _, _, _, e, _⟩ => by rw [e]; rfl
theorem len_rt30 : ∀ ds M Q, S_rt30 ds M Q → ds.length = 1 := fun _ _ _ ⟨_, _, e, _⟩ => by rw [e]; rfl
theorem len_law : ∀ ds M Q, S_law ds M Q → ds.length = 1 := fun _ _ _ ⟨_, e, _⟩ => by rw [e]; rfl
def GG (T : Nat) : Gam := fun f => if f = "common_divisor" then S_gcd else if f = "determinant" then S_det else if f = "led" then S_ledR else if f = "sides" then S_sides else if f = "steps_of" then S_steps else if f = "comes_ahead" then S_caS else if f = "merged" then S_mergedE else if f = "sum_of" then S_sumE else if f = "squared_between" then DL.FT.S_sqb else if f = "farthest_two" then DL.FT.S_ft else if f = "_law_feed" then S_feed else if f = "_law_draw" then S_draw else if f = "_law_far" then S_far else if f = "_law_turn" then S_trn else if f = "_law_apart" then S_aprt else if f = "_law_wrapped" then S_rim else if f = "_law_led" then S_led else if f = "_law_bowl" then S_bowl else if f = "_law_even" then S_even else if f = "_law_line" then S_line else if f = "_law_cloud" then S_cloud else if f = "_law_rim" then S_rimF else if f = "_law_great" then S_great else if f = "_law_some_rim" then S_some else if f = "_law_due" then S_dueF else if f = "_law_doubled" then S_dbl else if f = "_law_right" then S_rt30 else fun _ _ _ => False
theorem facts {P : Program} {w : World} {K : Frg} {h : Heap} {mg : Str → Option Value} {f : Addr} (X : K.In h) (Gn : h.Ns mainGlobals mg) (hfa : mg ("law" : Str) = some (.ref f)) (c : He.SaysD fal fnl K) :
    ∃ fd : FuncData, (∀ (s : Shared) (v : Value), BindsTo s fd ⟨[v], []⟩ [("_law_script", v)]) ∧ ∀ base : Heap, K.In base → base.Ns mainGlobals mg → FnG P w K mg base 6 f fd ["_law_script"] S_law := by
  obtain ⟨fd_sides, F_sides⟩ := c.def_ 0 (d := dd_sides) rfl
  have g_sides : mg ("sides" : Str) = _ := He.glo_ok X Gn (c.fact 0 (f := .glo "sides") rfl)
  obtain ⟨fd_squared_between, F_squared_between⟩ := c.def_ 1 (d := dd_squared_between) rfl
  have g_squared_between : mg ("squared_between" : Str) = _ := He.glo_ok X Gn (c.fact 1 (f := .glo "squared_between") rfl)
  obtain ⟨fd_farthest_two, F_farthest_two⟩ := c.def_ 2 (d := dd_farthest_two) rfl
  have g_farthest_two : mg ("farthest_two" : Str) = _ := He.glo_ok X Gn (c.fact 2 (f := .glo "farthest_two") rfl)
  obtain ⟨fd_determinant, F_determinant⟩ := c.def_ 3 (d := dd_determinant) rfl
  have g_determinant : mg ("determinant" : Str) = _ := He.glo_ok X Gn (c.fact 3 (f := .glo "determinant") rfl)
  obtain ⟨fd_led, F_led⟩ := c.def_ 4 (d := dd_led) rfl
  have g_led : mg ("led" : Str) = _ := He.glo_ok X Gn (c.fact 4 (f := .glo "led") rfl)
  obtain ⟨fd_steps_of, F_steps_of⟩ := c.def_ 5 (d := dd_steps_of) rfl
  have g_steps_of : mg ("steps_of" : Str) = _ := He.glo_ok X Gn (c.fact 5 (f := .glo "steps_of") rfl)
  obtain ⟨fd_comes_ahead, F_comes_ahead⟩ := c.def_ 6 (d := dd_comes_ahead) rfl
  have g_comes_ahead : mg ("comes_ahead" : Str) = _ := He.glo_ok X Gn (c.fact 6 (f := .glo "comes_ahead") rfl)
  obtain ⟨fd_merged, F_merged⟩ := c.def_ 7 (d := dd_merged) rfl
  have g_merged : mg ("merged" : Str) = _ := He.glo_ok X Gn (c.fact 7 (f := .glo "merged") rfl)
  obtain ⟨fd_sum_of, F_sum_of⟩ := c.def_ 8 (d := dd_sum_of) rfl
  have g_sum_of : mg ("sum_of" : Str) = _ := He.glo_ok X Gn (c.fact 8 (f := .glo "sum_of") rfl)
  obtain ⟨fd_law_feed, F_law_feed⟩ := c.def_ 9 (d := dd_law_feed) rfl
  have g_law_feed : mg ("_law_feed" : Str) = _ := He.glo_ok X Gn (c.fact 9 (f := .glo "_law_feed") rfl)
  obtain ⟨fd_law_draw, F_law_draw⟩ := c.def_ 10 (d := dd_law_draw) rfl
  have g_law_draw : mg ("_law_draw" : Str) = _ := He.glo_ok X Gn (c.fact 10 (f := .glo "_law_draw") rfl)
  obtain ⟨fd_law_far, F_law_far⟩ := c.def_ 11 (d := dd_law_far) rfl
  have g_law_far : mg ("_law_far" : Str) = _ := He.glo_ok X Gn (c.fact 11 (f := .glo "_law_far") rfl)
  obtain ⟨fd_law_turn, F_law_turn⟩ := c.def_ 12 (d := dd_law_turn) rfl
  have g_law_turn : mg ("_law_turn" : Str) = _ := He.glo_ok X Gn (c.fact 12 (f := .glo "_law_turn") rfl)
  obtain ⟨fd_law_apart, F_law_apart⟩ := c.def_ 13 (d := dd_law_apart) rfl
  have g_law_apart : mg ("_law_apart" : Str) = _ := He.glo_ok X Gn (c.fact 13 (f := .glo "_law_apart") rfl)
  obtain ⟨fd_law_wrapped, F_law_wrapped⟩ := c.def_ 14 (d := dd_law_wrapped) rfl
  have g_law_wrapped : mg ("_law_wrapped" : Str) = _ := He.glo_ok X Gn (c.fact 14 (f := .glo "_law_wrapped") rfl)
  obtain ⟨fd_law_led, F_law_led⟩ := c.def_ 15 (d := dd_law_led) rfl
  have g_law_led : mg ("_law_led" : Str) = _ := He.glo_ok X Gn (c.fact 15 (f := .glo "_law_led") rfl)
  obtain ⟨fd_law_bowl, F_law_bowl⟩ := c.def_ 16 (d := dd_law_bowl) rfl
  have g_law_bowl : mg ("_law_bowl" : Str) = _ := He.glo_ok X Gn (c.fact 16 (f := .glo "_law_bowl") rfl)
  obtain ⟨fd_law_even, F_law_even⟩ := c.def_ 17 (d := dd_law_even) rfl
  have g_law_even : mg ("_law_even" : Str) = _ := He.glo_ok X Gn (c.fact 17 (f := .glo "_law_even") rfl)
  obtain ⟨fd_law_line, F_law_line⟩ := c.def_ 18 (d := dd_law_line) rfl
  have g_law_line : mg ("_law_line" : Str) = _ := He.glo_ok X Gn (c.fact 18 (f := .glo "_law_line") rfl)
  obtain ⟨fd_law_cloud, F_law_cloud⟩ := c.def_ 19 (d := dd_law_cloud) rfl
  have g_law_cloud : mg ("_law_cloud" : Str) = _ := He.glo_ok X Gn (c.fact 19 (f := .glo "_law_cloud") rfl)
  obtain ⟨fd_law_rim, F_law_rim⟩ := c.def_ 20 (d := dd_law_rim) rfl
  have g_law_rim : mg ("_law_rim" : Str) = _ := He.glo_ok X Gn (c.fact 20 (f := .glo "_law_rim") rfl)
  obtain ⟨fd_law_great, F_law_great⟩ := c.def_ 21 (d := dd_law_great) rfl
  have g_law_great : mg ("_law_great" : Str) = _ := He.glo_ok X Gn (c.fact 21 (f := .glo "_law_great") rfl)
  obtain ⟨fd_law_some_rim, F_law_some_rim⟩ := c.def_ 22 (d := dd_law_some_rim) rfl
  have g_law_some_rim : mg ("_law_some_rim" : Str) = _ := He.glo_ok X Gn (c.fact 22 (f := .glo "_law_some_rim") rfl)
  obtain ⟨fd_law_due, F_law_due⟩ := c.def_ 23 (d := dd_law_due) rfl
  have g_law_due : mg ("_law_due" : Str) = _ := He.glo_ok X Gn (c.fact 23 (f := .glo "_law_due") rfl)
  obtain ⟨fd_law_doubled, F_law_doubled⟩ := c.def_ 24 (d := dd_law_doubled) rfl
  have g_law_doubled : mg ("_law_doubled" : Str) = _ := He.glo_ok X Gn (c.fact 24 (f := .glo "_law_doubled") rfl)
  obtain ⟨fd_law_right, F_law_right⟩ := c.def_ 25 (d := dd_law_right) rfl
  have g_law_right : mg ("_law_right" : Str) = _ := He.glo_ok X Gn (c.fact 25 (f := .glo "_law_right") rfl)
  obtain ⟨fd_law, F_law⟩ := c.def_ 26 (d := dd_law) rfl
  have g_law : mg ("law" : Str) = _ := He.glo_ok X Gn (c.fact 26 (f := .glo "law") rfl)
  have e := hfa.symm.trans g_law
  cases e
  have bi := bi_of X Gn c (j := 27) rfl
  have b := FunD.bindsA (ps := ["_law_script"]) F_law fun _ _ _ _ _ _ us hl => match us, hl with | [_], _ => rfl
  refine ⟨fd_law, fun s v => b s [v] rfl, fun base _ _ => ?_⟩
  have n_law_apart : FnG P w K mg base 1 _ fd_law_apart ["_law_one", "_law_two"] (S_aprt) := fn_mkG (G := GG 4) F_law_apart sc_law_apart ck_law_apart bi (fa_nil) len_aprt (T_k30.law_apart_ok _)
  have D_law_apart : ∀ (k : Nat) (G : Gam), 1 ≤ k → G "_law_apart" = S_aprt → FnC G P w K mg base k "_law_apart" := fun k G hk e => .def_ ⟨_, fd_law_apart, ["_law_one", "_law_two"], g_law_apart, F_law_apart.kp, F_law_apart.bindsN (fun _ _ _ _ _ _ us hl => match us, hl with | [_, _], _ => rfl), by rw [e]; exact n_law_apart.mono hk⟩ (by decide)
  have n_law_draw : FnG P w K mg base 1 _ fd_law_draw ["_law_feed_here", "_law_many"] (S_draw) := fn_mkG (G := GG 4) F_law_draw sc_law_draw ck_law_draw bi (fa_nil) len_draw (draw_ok _)
  have D_law_draw : ∀ (k : Nat) (G : Gam), 1 ≤ k → G "_law_draw" = S_draw → FnC G P w K mg base k "_law_draw" := fun k G hk e => .def_ ⟨_, fd_law_draw, ["_law_feed_here", "_law_many"], g_law_draw, F_law_draw.kp, F_law_draw.bindsN (fun _ _ _ _ _ _ us hl => match us, hl with | [_, _], _ => rfl), by rw [e]; exact n_law_draw.mono hk⟩ (by decide)
  have n_law_doubled : FnG P w K mg base 2 _ fd_law_doubled ["_law_feed_here", "_law_rim_here"] (S_dbl) := fn_mkG (G := GG 4) F_law_doubled sc_law_doubled ck_law_doubled bi (fa_cons (D_law_draw _ (GG 4) (by omega) (by simp [GG])) (fa_nil)) len_dbl (T_k30.law_doubled_ok _ (by simp [GG]))
  have D_law_doubled : ∀ (k : Nat) (G : Gam), 2 ≤ k → G "_law_doubled" = S_dbl → FnC G P w K mg base k "_law_doubled" := fun k G hk e => .def_ ⟨_, fd_law_doubled, ["_law_feed_here", "_law_rim_here"], g_law_doubled, F_law_doubled.kp, F_law_doubled.bindsN (fun _ _ _ _ _ _ us hl => match us, hl with | [_, _], _ => rfl), by rw [e]; exact n_law_doubled.mono hk⟩ (by decide)
  have n_squared_between : FnG P w K mg base 1 _ fd_squared_between ["one", "other"] (DL.FT.S_sqb) := fn_mkG (G := GG 4) F_squared_between sc_squared_between ck_squared_between bi (fa_nil) DL.FT.len_sqb (DL.FT.squared_between_ok _)
  have D_squared_between : ∀ (k : Nat) (G : Gam), 1 ≤ k → G "squared_between" = DL.FT.S_sqb → FnC G P w K mg base k "squared_between" := fun k G hk e => .def_ ⟨_, fd_squared_between, ["one", "other"], g_squared_between, F_squared_between.kp, F_squared_between.bindsN (fun _ _ _ _ _ _ us hl => match us, hl with | [_, _], _ => rfl), by rw [e]; exact n_squared_between.mono hk⟩ (by decide)
  have n_farthest_two : FnG P w K mg base 2 _ fd_farthest_two ["one", "other"] (DL.FT.S_ft) := fn_mkG (G := GG 4) F_farthest_two sc_farthest_two ck_farthest_two bi (fa_cons (D_squared_between _ (GG 4) (by omega) (by simp [GG])) (fa_nil)) DL.FT.len_ft (DL.FT.farthest_two_ok _ (by simp [GG]))
  have D_farthest_two : ∀ (k : Nat) (G : Gam), 2 ≤ k → G "farthest_two" = DL.FT.S_ft → FnC G P w K mg base k "farthest_two" := fun k G hk e => .def_ ⟨_, fd_farthest_two, ["one", "other"], g_farthest_two, F_farthest_two.kp, F_farthest_two.bindsN (fun _ _ _ _ _ _ us hl => match us, hl with | [_, _], _ => rfl), by rw [e]; exact n_farthest_two.mono hk⟩ (by decide)
  have n_law_due : FnG P w K mg base 2 _ fd_law_due ["_law_one", "_law_other"] (S_dueF) := fn_mkG (G := GG 4) F_law_due sc_law_due ck_law_due bi (fa_cons (D_law_apart _ (GG 4) (by omega) (by simp [GG])) (fa_nil)) len_dueF (T_k30.law_due_ok _ (by simp [GG]))
  have D_law_due : ∀ (k : Nat) (G : Gam), 2 ≤ k → G "_law_due" = S_dueF → FnC G P w K mg base k "_law_due" := fun k G hk e => .def_ ⟨_, fd_law_due, ["_law_one", "_law_other"], g_law_due, F_law_due.kp, F_law_due.bindsN (fun _ _ _ _ _ _ us hl => match us, hl with | [_, _], _ => rfl), by rw [e]; exact n_law_due.mono hk⟩ (by decide)
  have n_law_right : FnG P w K mg base 3 _ fd_law_right ["_law_cases"] (S_rt30) := fn_mkG (G := GG 4) F_law_right sc_law_right ck_law_right bi (fa_cons (D_farthest_two _ (GG 4) (by omega) (by simp [GG])) (fa_cons (D_law_due _ (GG 4) (by omega) (by simp [GG])) (fa_nil))) len_rt30 (T_k30.law_right_ok _ (by simp [GG]) (by simp [GG]))
  have D_law_right : ∀ (k : Nat) (G : Gam), 3 ≤ k → G "_law_right" = S_rt30 → FnC G P w K mg base k "_law_right" := fun k G hk e => .def_ ⟨_, fd_law_right, ["_law_cases"], g_law_right, F_law_right.kp, F_law_right.bindsN (fun _ _ _ _ _ _ us hl => match us, hl with | [_], _ => rfl), by rw [e]; exact n_law_right.mono hk⟩ (by decide)
  have n_law_turn : FnG P w K mg base 1 _ fd_law_turn ["_law_one", "_law_two", "_law_three"] (S_trn) := fn_mkG (G := GG 4) F_law_turn sc_law_turn ck_law_turn bi (fa_nil) len_trn (law_turn_ok _)
  have D_law_turn : ∀ (k : Nat) (G : Gam), 1 ≤ k → G "_law_turn" = S_trn → FnC G P w K mg base k "_law_turn" := fun k G hk e => .def_ ⟨_, fd_law_turn, ["_law_one", "_law_two", "_law_three"], g_law_turn, F_law_turn.kp, F_law_turn.bindsN (fun _ _ _ _ _ _ us hl => match us, hl with | [_, _, _], _ => rfl), by rw [e]; exact n_law_turn.mono hk⟩ (by decide)
  have n_law_wrapped : FnG P w K mg base 2 _ fd_law_wrapped ["_law_points"] (S_rim) := fn_mkG (G := GG 4) F_law_wrapped sc_law_wrapped ck_law_wrapped bi (fa_cons (D_law_apart _ (GG 4) (by omega) (by simp [GG])) (fa_cons (D_law_turn _ (GG 4) (by omega) (by simp [GG])) (fa_nil))) len_rim (law_wrapped_ok _ (by simp [GG]) (by simp [GG]))
  have D_law_wrapped : ∀ (k : Nat) (G : Gam), 2 ≤ k → G "_law_wrapped" = S_rim → FnC G P w K mg base k "_law_wrapped" := fun k G hk e => .def_ ⟨_, fd_law_wrapped, ["_law_points"], g_law_wrapped, F_law_wrapped.kp, F_law_wrapped.bindsN (fun _ _ _ _ _ _ us hl => match us, hl with | [_], _ => rfl), by rw [e]; exact n_law_wrapped.mono hk⟩ (by decide)
  have n_law_far : FnG P w K mg base 2 _ fd_law_far ["_law_feed_here"] (S_far) := fn_mkG (G := GG 4) F_law_far sc_law_far ck_law_far bi (fa_cons (D_law_draw _ (GG 4) (by omega) (by simp [GG])) (fa_nil)) len_far (law_far_ok _ (by simp [GG]))
  have D_law_far : ∀ (k : Nat) (G : Gam), 2 ≤ k → G "_law_far" = S_far → FnC G P w K mg base k "_law_far" := fun k G hk e => .def_ ⟨_, fd_law_far, ["_law_feed_here"], g_law_far, F_law_far.kp, F_law_far.bindsN (fun _ _ _ _ _ _ us hl => match us, hl with | [_], _ => rfl), by rw [e]; exact n_law_far.mono hk⟩ (by decide)
  have n_law_even : FnG P w K mg base 2 _ fd_law_even ["_law_feed_here", "_law_most"] (S_even) := fn_mkG (G := GG 4) F_law_even sc_law_even ck_law_even bi (fa_cons (D_law_draw _ (GG 4) (by omega) (by simp [GG])) (fa_nil)) len_even (law_even_ok _ (by simp [GG]))
  have D_law_even : ∀ (k : Nat) (G : Gam), 2 ≤ k → G "_law_even" = S_even → FnC G P w K mg base k "_law_even" := fun k G hk e => .def_ ⟨_, fd_law_even, ["_law_feed_here", "_law_most"], g_law_even, F_law_even.kp, F_law_even.bindsN (fun _ _ _ _ _ _ us hl => match us, hl with | [_, _], _ => rfl), by rw [e]; exact n_law_even.mono hk⟩ (by decide)
  have n_law_led : FnG P w K mg base 1 _ fd_law_led ["_law_points", "_law_table", "_law_by"] (S_led) := fn_mkG (G := GG 4) F_law_led sc_law_led ck_law_led bi (fa_nil) len_led (law_led_ok _)
  have D_law_led : ∀ (k : Nat) (G : Gam), 1 ≤ k → G "_law_led" = S_led → FnC G P w K mg base k "_law_led" := fun k G hk e => .def_ ⟨_, fd_law_led, ["_law_points", "_law_table", "_law_by"], g_law_led, F_law_led.kp, F_law_led.bindsN (fun _ _ _ _ _ _ us hl => match us, hl with | [_, _, _], _ => rfl), by rw [e]; exact n_law_led.mono hk⟩ (by decide)
  have n_law_bowl : FnG P w K mg base 2 _ fd_law_bowl ["_law_feed_here", "_law_most"] (S_bowl) := fn_mkG (G := GG 4) F_law_bowl sc_law_bowl ck_law_bowl bi (fa_cons (D_law_led _ (GG 4) (by omega) (by simp [GG])) (fa_cons (D_law_draw _ (GG 4) (by omega) (by simp [GG])) (fa_nil))) len_bowl (law_bowl_ok _ (by simp [GG]) (by simp [GG]))
  have D_law_bowl : ∀ (k : Nat) (G : Gam), 2 ≤ k → G "_law_bowl" = S_bowl → FnC G P w K mg base k "_law_bowl" := fun k G hk e => .def_ ⟨_, fd_law_bowl, ["_law_feed_here", "_law_most"], g_law_bowl, F_law_bowl.kp, F_law_bowl.bindsN (fun _ _ _ _ _ _ us hl => match us, hl with | [_, _], _ => rfl), by rw [e]; exact n_law_bowl.mono hk⟩ (by decide)
  have n_law_line : FnG P w K mg base 2 _ fd_law_line ["_law_feed_here"] (S_line) := fn_mkG (G := GG 4) F_law_line sc_law_line ck_law_line bi (fa_cons (D_law_draw _ (GG 4) (by omega) (by simp [GG])) (fa_nil)) len_line (law_line_ok _ (by simp [GG]))
  have D_law_line : ∀ (k : Nat) (G : Gam), 2 ≤ k → G "_law_line" = S_line → FnC G P w K mg base k "_law_line" := fun k G hk e => .def_ ⟨_, fd_law_line, ["_law_feed_here"], g_law_line, F_law_line.kp, F_law_line.bindsN (fun _ _ _ _ _ _ us hl => match us, hl with | [_], _ => rfl), by rw [e]; exact n_law_line.mono hk⟩ (by decide)
  have n_law_cloud : FnG P w K mg base 3 _ fd_law_cloud ["_law_feed_here", "_law_most"] (S_cloud) := fn_mkG (G := GG 4) F_law_cloud sc_law_cloud ck_law_cloud bi (fa_cons (D_law_draw _ (GG 4) (by omega) (by simp [GG])) (fa_cons (D_law_far _ (GG 4) (by omega) (by simp [GG])) (fa_cons (D_law_even _ (GG 4) (by omega) (by simp [GG])) (fa_cons (D_law_bowl _ (GG 4) (by omega) (by simp [GG])) (fa_cons (D_law_line _ (GG 4) (by omega) (by simp [GG])) (fa_nil)))))) len_cloud (law_cloud_ok _ (by simp [GG]) (by simp [GG]) (by simp [GG]) (by simp [GG]) (by simp [GG]))
  have D_law_cloud : ∀ (k : Nat) (G : Gam), 3 ≤ k → G "_law_cloud" = S_cloud → FnC G P w K mg base k "_law_cloud" := fun k G hk e => .def_ ⟨_, fd_law_cloud, ["_law_feed_here", "_law_most"], g_law_cloud, F_law_cloud.kp, F_law_cloud.bindsN (fun _ _ _ _ _ _ us hl => match us, hl with | [_, _], _ => rfl), by rw [e]; exact n_law_cloud.mono hk⟩ (by decide)
  have n_law_rim : FnG P w K mg base 4 _ fd_law_rim ["_law_feed_here", "_law_most", "_law_is_small"] (S_rimF) := fn_mkG (G := GG 4) F_law_rim sc_law_rim ck_law_rim bi (fa_cons (D_law_wrapped _ (GG 4) (by omega) (by simp [GG])) (fa_cons (D_law_cloud _ (GG 4) (by omega) (by simp [GG])) (fa_nil))) len_rimF (law_rimF_ok _ (by simp [GG]) (by simp [GG]))
  have D_law_rim : ∀ (k : Nat) (G : Gam), 4 ≤ k → G "_law_rim" = S_rimF → FnC G P w K mg base k "_law_rim" := fun k G hk e => .def_ ⟨_, fd_law_rim, ["_law_feed_here", "_law_most", "_law_is_small"], g_law_rim, F_law_rim.kp, F_law_rim.bindsN (fun _ _ _ _ _ _ us hl => match us, hl with | [_, _, _], _ => rfl), by rw [e]; exact n_law_rim.mono hk⟩ (by decide)
  have n_determinant : FnG P w K mg base 1 _ fd_determinant ["table"] (S_det) := fn_mkG (G := GG 4) F_determinant sc_determinant ck_determinant bi (fa_nil) len_det (determinant_ok _)
  have D_determinant : ∀ (k : Nat) (G : Gam), 1 ≤ k → G "determinant" = S_det → FnC G P w K mg base k "determinant" := fun k G hk e => .def_ ⟨_, fd_determinant, ["table"], g_determinant, F_determinant.kp, F_determinant.bindsN (fun _ _ _ _ _ _ us hl => match us, hl with | [_], _ => rfl), by rw [e]; exact n_determinant.mono hk⟩ (by decide)
  have n_led : FnG P w K mg base 2 _ fd_led ["rim", "table"] (S_ledR) := fn_mkG (G := GG 4) F_led sc_led ck_led bi (fa_cons (D_determinant _ (GG 4) (by omega) (by simp [GG])) (fa_nil)) len_ledR (led_ok _ (by simp [GG]))
  have D_led : ∀ (k : Nat) (G : Gam), 2 ≤ k → G "led" = S_ledR → FnC G P w K mg base k "led" := fun k G hk e => .def_ ⟨_, fd_led, ["rim", "table"], g_led, F_led.kp, F_led.bindsN (fun _ _ _ _ _ _ us hl => match us, hl with | [_, _], _ => rfl), by rw [e]; exact n_led.mono hk⟩ (by decide)
  have n_law_great : FnG P w K mg base 3 _ fd_law_great ["_law_feed_here"] (S_great) := fn_mkG (G := GG 4) F_law_great sc_law_great ck_law_great bi (fa_cons (D_law_draw _ (GG 4) (by omega) (by simp [GG])) (fa_cons (D_led _ (GG 4) (by omega) (by simp [GG])) (fa_cons (D_law_far _ (GG 4) (by omega) (by simp [GG])) (fa_cons (D_law_wrapped _ (GG 4) (by omega) (by simp [GG])) (fa_nil))))) len_great (law_great_ok _ (by simp [GG]) (by simp [GG]) (by simp [GG]) (by simp [GG]))
  have D_law_great : ∀ (k : Nat) (G : Gam), 3 ≤ k → G "_law_great" = S_great → FnC G P w K mg base k "_law_great" := fun k G hk e => .def_ ⟨_, fd_law_great, ["_law_feed_here"], g_law_great, F_law_great.kp, F_law_great.bindsN (fun _ _ _ _ _ _ us hl => match us, hl with | [_], _ => rfl), by rw [e]; exact n_law_great.mono hk⟩ (by decide)
  have n_comes_ahead : FnG P w K mg base 1 _ fd_comes_ahead ["one", "other"] (S_caS) := fn_mkG (G := GG 4) F_comes_ahead sc_comes_ahead ck_comes_ahead bi (fa_nil) len_caS (ahead_sum_ok _)
  have D_comes_ahead : ∀ (k : Nat) (G : Gam), 1 ≤ k → G "comes_ahead" = S_caS → FnC G P w K mg base k "comes_ahead" := fun k G hk e => .def_ ⟨_, fd_comes_ahead, ["one", "other"], g_comes_ahead, F_comes_ahead.kp, F_comes_ahead.bindsN (fun _ _ _ _ _ _ us hl => match us, hl with | [_, _], _ => rfl), by rw [e]; exact n_comes_ahead.mono hk⟩ (by decide)
  have n_merged : FnG P w K mg base 2 _ fd_merged ["mine", "theirs"] (S_mergedE) := fn_mkG (G := GG 4) F_merged sc_merged ck_merged bi (fa_cons (D_comes_ahead _ (GG 4) (by omega) (by simp [GG])) (fa_nil)) len_mergedE (merged_okE _ (by simp [GG]))
  have D_merged : ∀ (k : Nat) (G : Gam), 2 ≤ k → G "merged" = S_mergedE → FnC G P w K mg base k "merged" := fun k G hk e => .def_ ⟨_, fd_merged, ["mine", "theirs"], g_merged, F_merged.kp, F_merged.bindsN (fun _ _ _ _ _ _ us hl => match us, hl with | [_, _], _ => rfl), by rw [e]; exact n_merged.mono hk⟩ (by decide)
  have n_sides : FnG P w K mg base 1 _ fd_sides ["rim"] (S_sides) := fn_mkG (G := GG 4) F_sides sc_sides ck_sides bi (fa_nil) len_sides (sides_ok _)
  have D_sides : ∀ (k : Nat) (G : Gam), 1 ≤ k → G "sides" = S_sides → FnC G P w K mg base k "sides" := fun k G hk e => .def_ ⟨_, fd_sides, ["rim"], g_sides, F_sides.kp, F_sides.bindsN (fun _ _ _ _ _ _ us hl => match us, hl with | [_], _ => rfl), by rw [e]; exact n_sides.mono hk⟩ (by decide)
  have n_steps_of : FnG P w K mg base 2 _ fd_steps_of ["rim"] (S_steps) := fn_mkG (G := GG 4) F_steps_of sc_steps_of ck_steps_of bi (fa_cons (D_sides _ (GG 4) (by omega) (by simp [GG])) (fa_nil)) len_steps (steps_sum_ok _ (by simp [GG]))
  have D_steps_of : ∀ (k : Nat) (G : Gam), 2 ≤ k → G "steps_of" = S_steps → FnC G P w K mg base k "steps_of" := fun k G hk e => .def_ ⟨_, fd_steps_of, ["rim"], g_steps_of, F_steps_of.kp, F_steps_of.bindsN (fun _ _ _ _ _ _ us hl => match us, hl with | [_], _ => rfl), by rw [e]; exact n_steps_of.mono hk⟩ (by decide)
  have n_sum_of : FnG P w K mg base 3 _ fd_sum_of ["one", "other"] (S_sumE) := fn_mkG (G := GG 4) F_sum_of sc_sum_of ck_sum_of bi (fa_cons (D_merged _ (GG 4) (by omega) (by simp [GG])) (fa_cons (D_steps_of _ (GG 4) (by omega) (by simp [GG])) (fa_nil))) len_sumE (sum_ofE_ok "merged" "steps_of" _ (by simp [GG]) (by simp [GG]))
  have D_sum_of : ∀ (k : Nat) (G : Gam), 3 ≤ k → G "sum_of" = S_sumE → FnC G P w K mg base k "sum_of" := fun k G hk e => .def_ ⟨_, fd_sum_of, ["one", "other"], g_sum_of, F_sum_of.kp, F_sum_of.bindsN (fun _ _ _ _ _ _ us hl => match us, hl with | [_, _], _ => rfl), by rw [e]; exact n_sum_of.mono hk⟩ (by decide)
  have n_law_some_rim : FnG P w K mg base 5 _ fd_law_some_rim ["_law_feed_here"] (S_some) := fn_mkG (G := GG 4) F_law_some_rim sc_law_some_rim ck_law_some_rim bi (fa_cons (D_law_rim _ (GG 4) (by omega) (by simp [GG])) (fa_cons (D_law_draw _ (GG 4) (by omega) (by simp [GG])) (fa_cons (D_law_great _ (GG 4) (by omega) (by simp [GG])) (fa_cons (D_sum_of _ (GG 4) (by omega) (by simp [GG])) (fa_cons (D_law_wrapped _ (GG 4) (by omega) (by simp [GG])) (fa_cons (D_law_bowl _ (GG 4) (by omega) (by simp [GG])) (fa_cons (D_law_even _ (GG 4) (by omega) (by simp [GG])) (fa_nil)))))))) len_some (law_some_ok _ (by simp [GG]) (by simp [GG]) (by simp [GG]) (by simp [GG]) (by simp [GG]) (by simp [GG]) (by simp [GG]))
  have D_law_some_rim : ∀ (k : Nat) (G : Gam), 5 ≤ k → G "_law_some_rim" = S_some → FnC G P w K mg base k "_law_some_rim" := fun k G hk e => .def_ ⟨_, fd_law_some_rim, ["_law_feed_here"], g_law_some_rim, F_law_some_rim.kp, F_law_some_rim.bindsN (fun _ _ _ _ _ _ us hl => match us, hl with | [_], _ => rfl), by rw [e]; exact n_law_some_rim.mono hk⟩ (by decide)
  have n_law_feed : FnG P w K mg base 1 _ fd_law_feed ["_law_script"] (S_feed) := fn_mkG (G := GG 4) F_law_feed sc_law_feed ck_law_feed bi (fa_nil) len_feed (law_feed_ok _)
  have D_law_feed : ∀ (k : Nat) (G : Gam), 1 ≤ k → G "_law_feed" = S_feed → FnC G P w K mg base k "_law_feed" := fun k G hk e => .def_ ⟨_, fd_law_feed, ["_law_script"], g_law_feed, F_law_feed.kp, F_law_feed.bindsN (fun _ _ _ _ _ _ us hl => match us, hl with | [_], _ => rfl), by rw [e]; exact n_law_feed.mono hk⟩ (by decide)
  have n_law : FnG P w K mg base 6 _ fd_law ["_law_script"] (S_law) := fn_mkG (G := GG 4) F_law sc_law ck_law bi (fa_cons (D_law_apart _ (GG 4) (by omega) (by simp [GG])) (fa_cons (D_law_doubled _ (GG 4) (by omega) (by simp [GG])) (fa_cons (D_farthest_two _ (GG 4) (by omega) (by simp [GG])) (fa_cons (D_law_right _ (GG 4) (by omega) (by simp [GG])) (fa_cons (D_law_rim _ (GG 4) (by omega) (by simp [GG])) (fa_cons (D_law_draw _ (GG 4) (by omega) (by simp [GG])) (fa_cons (D_law_some_rim _ (GG 4) (by omega) (by simp [GG])) (fa_cons (D_law_feed _ (GG 4) (by omega) (by simp [GG])) (fa_nil))))))))) len_law (T_k30.law_ok _ (by simp [GG]) (by simp [GG]) (by simp [GG]) (by simp [GG]) (by simp [GG]) (by simp [GG]) (by simp [GG]) (by simp [GG]))
  exact n_law
end T_k30
open PySem PySem.W PySem.Calls PyProof.Rows
theorem PySem.Challenge.cw_rimturns_k30_farthest_of_two_holds : PySem.Challenge.rw_rimturns_k30_farthest_of_two.Holds := by
  w_on; o_law
  refine HandSHeadRun.head_any (r := OpenLaw.row PySem.Challenge.rw_rimturns_k30_farthest_of_two) (q := view (OpenLaw.row PySem.Challenge.rw_rimturns_k30_farthest_of_two).prog [36]) (H := T_k30.hk) (ob := T_k30.obs_) (M := 9000) (loose := T_k30.loose_) (d := HandSHeadRun.topDef (OpenLaw.row PySem.Challenge.rw_rimturns_k30_farthest_of_two).prog 36) (kwd := []) T_k30.obs_eq
    (by kernel_rfl) (fun s => by kernel_rfl) T_k30.run_ (by kernel_rfl) (by kernel_rfl) (by kernel_rfl) (by rfl) (by first | assumption | decide +kernel) (by decide +kernel) ⟨rfl, rfl, rfl, rfl, rfl, by decide +kernel⟩ ?hw ?hc
  case hw => w_witness2
  case hc =>
    refine DL.walkG (l := PySem.Challenge.rw_rimturns_k30_farthest_of_two) (n := 63) (k := 6) (x := "_law_script") rfl (by decide) (by kernel_rfl) ⟨rfl, by decide, by decide⟩ ?F
    intro w mg fa h Y G hmg0
    obtain ⟨K, KX, c⟩ := Y
    have hmg : mg ("law" : PySem.Str) = some (.ref fa) := by
      have e : (HandSHeadRun.topDef (OpenLaw.row PySem.Challenge.rw_rimturns_k30_farthest_of_two).prog 36).name = ("law" : PySem.Str) := by kernel_rfl
      rw [← e]
      exact hmg0
    obtain ⟨fd, hb, hF⟩ := T_k30.facts (P := (PySem.Challenge.rw_rimturns_k30_farthest_of_two).prog) (w := w) KX G hmg c
    exact ⟨K, fd, T_k30.S_law, KX, hb, fun ns hl => ⟨ns, rfl, hl, rfl, fun _ => rfl⟩, hF⟩
