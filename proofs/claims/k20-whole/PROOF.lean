import PyProof.Rows.All
import Wide.All
import OpenK.AllK
import Wide.FinOn
import HandS.HeadHook1
import HandS.HeadHook2
import PyProof.GenQ
import PyProof.Rows.RowBridgeG
import Open.Gens
import Open.Head
import HandS.GenList
import HandS.Comp
import HandS.Ends
import HandS.Call
import HandS.SetFor
import HandS.Strs
import HandS.List
import PyProof.Rows.SortStr
import HandS.Iter
import KE.GoesMore
import HandS.OwnEq
import KE.DatumOrd
import PyProof.EqKinds
import HandS.Conv
import PyProof.TupleOfStr
import PyProof.Rows.StrMeet
import PyProof.Rows.TmSorted
import HandS.ForMost
import HandS.IsInst
import HandS.Star
import HandS.Property
import HandS.TupAny
import HandS.DictComp
import HandS.FStr
import HandS.RaiseMore
import HandS.Text
import OpenK.KMeth
import KE.KCallOwn
import HandS.Codes
import HandS.HeadEnd
import HandS.Head0
import HandS.Head1
import HandS.Head2
import PySem.Challenge.RW_seenframes_k20_whole_cuts_and_partings
section
set_option linter.all false
namespace G
open PySem PySem.Spec PyProof.Rows L2
def LET : Str := "abcdefghijklmnopqrstuvwxyz"
def top (i : Nat) : Stmt := PySem.Challenge.pw_seenframes_k20_whole_cuts_and_partings.main.body.getD i (.Pass ⟨0, 0, 0, 0⟩)
end G
end
section
set_option Elab.async false
set_option linter.all false
set_option maxRecDepth 100000
set_option maxHeartbeats 0
/-! the head: what the top has written, its run -/
namespace G
open PySem PySem.Spec PyProof.Rows L2
open C8 (fnScope fnBody fnArgs)
/-- a def: its address by what is looked at -/
structure DefA where
  ad : PySem.W.Frag → Addr
  name : Str
  qual : Str
  st : Stmt
  dfl : List He.Dv
def gP (K : PySem.W.Frag) (p : Addr) : Addr := match PySem.W.recIn K p "property" with
  | some (.ref g :: _) => g
  | _ => 0
def gD (x n : Str) (st : Stmt) (dfl : List He.Dv) : DefA := ⟨fun K => He.ga K x, n, n, st, dfl⟩
def mD (C m q : Str) (st : Stmt) (dfl : List He.Dv) : DefA := ⟨fun K => He.ma K (He.ga K C) m, m, q, st, dfl⟩
def pD (C m q : Str) (st : Stmt) : DefA := ⟨fun K => gP K (He.ma K (He.ga K C) m), m, q, st, []⟩
def fnA (K : PySem.W.Frag) (a : Addr) : He.FnW := match K.lookup a with
  | some ⟨_, _, .func fd, _⟩ => some (fd.name, fd.qualname, fd.params, fd.body, fd.scope, fd.globals, fd.closure, fd.builtins)
  | _ => none
def DefA.val (d : DefA) : He.FnW := some (d.name, d.qual, fnArgs d.st, .stmts (fnBody d.st), fnScope d.st, mainGlobals, [], builtinsNs)
def DefA.ok (K : PySem.W.Frag) (d : DefA) : Bool := PySem.W.keepIn K (.ref (d.ad K)) && (match K.lookup (d.ad K) with
  | some ⟨_, _, .func fd, _⟩ => PySem.W.codeIn K fd.code d.qual && He.dflB K fd.defaults (d.dfl.map (He.Dv.v K))
  | _ => false)
theorem DefA.funD {K : PySem.W.Frag} {d : DefA} (e : fnA K (d.ad K) = d.val) (c : d.ok K = true) : ∃ fd, FunD K d.name d.qual (fnArgs d.st) (fnBody d.st) (fnScope d.st) (d.dfl.map (He.Dv.v K)) [] (d.ad K) fd := by
  obtain ⟨kp, c2⟩ := He.ba c
  unfold fnA at e
  cases q : K.lookup (d.ad K) with
  | none =>
    rw [q] at c2
    cases c2
  | some o =>
    obtain ⟨oc, od, dt, osl⟩ := o
    rw [q] at c2 e
    cases dt with
    | func fd =>
      obtain ⟨n1, n2, n3, n4, n5, n6, n7, n8, n9, n10, n11, n12, n13, n14, n15⟩ := fd
      have e2 : (some (n1, n2, n3, n4, n5, n6, n7, n15) : He.FnW) = some (d.name, d.qual, fnArgs d.st, .stmts (fnBody d.st), fnScope d.st, mainGlobals, [], builtinsNs) := e
      simp only [Option.some.injEq, Prod.mk.injEq] at e2
      obtain ⟨h1, h2, h3, h4, h5, h6, h7, h8⟩ := e2
      subst h1 h2 h3 h4 h5 h6 h7 h8
      have c3 : (PySem.W.codeIn K n13 d.qual && He.dflB K n8 (d.dfl.map (He.Dv.v K))) = true := c2
      obtain ⟨k1, k2⟩ := He.ba c3
      exact ⟨_, ⟨oc, od, n8, n9, n10, n11, n12, n13, n14, osl, rfl, q, k1, He.dflB_ok k2, .inl rfl⟩, kp⟩
    | _ => cases c2
/-! ### what is looked at -/
def refsH (o : Obj) : List Addr := match o.data with
  | .dict es _ => es.toList.flatMap fun e => He.refV e.val
  | .func fd => He.refV fd.code ++ He.refV fd.defaults
  | .cls cd => [cd.ns]
  | .seq its _ => its.toList.flatMap He.refV
  | .fields vs => (match o.cls with
    | .type "property" => vs.toList.flatMap He.refV
    | _ => [])
  | _ => []
def nextH (g : Addr → Option Obj) (as : List Addr) : List Addr := as.flatMap fun a => match g a with
  | some o => refsH o
  | none => []
def layH (g : Addr → Option Obj) : Nat → List Addr → List Addr
  | 0, as => as
  | n + 1, as => as ++ layH g n (nextH g as)
def asH (g : Addr → Option Obj) : List Addr := layH g 5 [mainGlobals]
abbrev AlH : Type := Bool × List He.FnW
def obsH (fa : List He.Fa) (fn : List DefA) (ex : PySem.W.Frag → Bool) (K : PySem.W.Frag) : AlH := ((fa.all fun f => f.ok K) && ((fn.all fun d => d.ok K) && ex K), fn.map fun d => fnA K (d.ad K))
def valH (fn : List DefA) : AlH := (true, fn.map DefA.val)
def SaysH (fa : List He.Fa) (fn : List DefA) (ex : PySem.W.Frag → Bool) (K : PySem.W.Frag) : Prop := obsH fa fn ex K = valH fn
def obsHG (fa : List He.Fa) (fn : List DefA) (ex : PySem.W.Frag → Bool) (g : Addr → Option Obj) : AlH := obsH fa fn ex (He.frG g (asH g))
def hookH (fa : List He.Fa) (fn : List DefA) (ex : PySem.W.Frag → Bool) : PySem.W.Hook where
  α := AlH
  obs := fun s => obsHG fa fn ex s.heap.get?
  val := fun _ => valH fn
  says := fun _ h => ∃ K : PySem.W.Frag, K.In h ∧ SaysH fa fn ex K
  of := fun _ _ e => ⟨_, He.frG_in, e⟩
  keeps := fun _ _ _ ⟨K, hK, c⟩ k => ⟨K, PySem.W.Frag.In.keeps hK k, c⟩
theorem obsHG_eq {fa : List He.Fa} {fn : List DefA} {ex : PySem.W.Frag → Bool} {g : Addr → Option Obj} {s : Shared} (h : ∀ a, g a = s.heap.get? a) : obsHG fa fn ex g = (hookH fa fn ex).obs s := by
  have e : g = s.heap.get? := funext h
  rw [e] <;> rfl
section
variable {fa : List He.Fa} {fn : List DefA} {ex : PySem.W.Frag → Bool} {K : PySem.W.Frag}
theorem SaysH.fact (c : SaysH fa fn ex K) (i : Nat) {f : He.Fa} (h : fa[i]? = some f) : f.ok K = true := by
  have c1 := (He.ba (show ((fa.all fun f => f.ok K) && ((fn.all fun d => d.ok K) && ex K)) = true from congrArg (fun z : AlH => z.1) c)).1
  exact List.all_eq_true.mp c1 f (List.mem_of_getElem? h)
theorem SaysH.more (c : SaysH fa fn ex K) : ex K = true :=
  (He.ba (He.ba (show ((fa.all fun f => f.ok K) && ((fn.all fun d => d.ok K) && ex K)) = true from congrArg (fun z : AlH => z.1) c)).2).2
theorem SaysH.def_ (c : SaysH fa fn ex K) (i : Nat) {d : DefA} (h : fn[i]? = some d) : ∃ fd, FunD K d.name d.qual (fnArgs d.st) (fnBody d.st) (fnScope d.st) (d.dfl.map (He.Dv.v K)) [] (d.ad K) fd := by
  have c2 := (He.ba (He.ba (show ((fa.all fun f => f.ok K) && ((fn.all fun d => d.ok K) && ex K)) = true from congrArg (fun z : AlH => z.1) c)).2).1
  have e : fn.map (fun d => fnA K (d.ad K)) = fn.map DefA.val := congrArg (fun z : AlH => z.2) c
  have e2 : (fn.map fun d => fnA K (d.ad K))[i]? = (fn.map DefA.val)[i]? := by rw [e]
  rw [List.getElem?_map, List.getElem?_map, h] at e2
  exact DefA.funD (Option.some.inj e2) (List.all_eq_true.mp c2 d (List.mem_of_getElem? h))
end
/-! ### more facts -/
def insB (K : PySem.W.Frag) (x : Str) : Bool :=
  decide (PySem.W.findIn K (.ref (He.ga K x)) "__class__" = some (some (.builtin "object.__class__"))) &&
  (decide (PySem.W.specialIn K (.builtin "object.__class__") "__get__" = some (some (.builtin "getset_descriptor.__get__"))) &&
  (decide (PySem.W.takesIn K (.builtin "object.__class__") = some true) &&
  (decide (PySem.W.mroIn K (He.ga K x) (.type "object") = some true) &&
  decide (PySem.W.kitOne K (.ref (He.ga K x)) (.ref (He.ga K x)) = some true))))
def prpB (K : PySem.W.Frag) (x m : Str) : Bool :=
  decide (PySem.W.findIn K (.ref (He.ga K x)) m = some (some (.ref (He.ma K (He.ga K x) m)))) &&
  (decide (PySem.W.specialIn K (.ref (He.ma K (He.ga K x) m)) "__get__" = some (some (.builtin "property.__get__"))) &&
  (decide (PySem.W.takesIn K (.ref (He.ma K (He.ga K x) m)) = some true) &&
  (match PySem.W.recIn K (He.ma K (He.ga K x) m) "property" with
    | some (.ref _ :: _) => true
    | _ => false)))
theorem insB_ok {K : PySem.W.Frag} {x : Str} (c : Cls K (He.ga K x)) (h : insB K x = true) : C8.InsC K (He.ga K x) := by
  obtain ⟨h1, h⟩ := He.ba h
  obtain ⟨h2, h⟩ := He.ba h
  obtain ⟨h3, h⟩ := He.ba h
  obtain ⟨h4, h5⟩ := He.ba h
  exact ⟨c, of_decide_eq_true h1, of_decide_eq_true h2, of_decide_eq_true h3, of_decide_eq_true h4, of_decide_eq_true h5⟩
theorem prpB_ok {K : PySem.W.Frag} {x m : Str} (h : prpB K x m = true) : PropOf K (He.ga K x) m (He.ma K (He.ga K x) m) (gP K (He.ma K (He.ga K x) m)) := by
  obtain ⟨h1, h⟩ := He.ba h
  obtain ⟨h2, h⟩ := He.ba h
  obtain ⟨h3, h4⟩ := He.ba h
  refine ⟨of_decide_eq_true h1, of_decide_eq_true h2, of_decide_eq_true h3, ?_⟩
  unfold gP
  split at h4
  · rename_i g r q
    rw [q]
    exact ⟨r, rfl⟩
  · cases h4
def tupA (K : PySem.W.Frag) (a : Addr) : Bool := match K.lookup a with
  | some ⟨.type c, _, .seq its _, _⟩ => decide (c = "tuple") && its.toList.isEmpty
  | _ => false
theorem tupA_ok {K : PySem.W.Frag} {a : Addr} (h : tupA K a = true) (H : Hp) : SqT K H a [] := by
  unfold tupA at h
  cases q : K.lookup a with
  | none =>
    rw [q] at h
    cases h
  | some o =>
    obtain ⟨oc, od, dt, osl⟩ := o
    rw [q] at h
    cases oc with
    | type c =>
      cases dt with
      | seq its n =>
        obtain ⟨h1, h2⟩ := He.ba (show (decide (c = "tuple") && its.toList.isEmpty) = true from h)
        have e : its.toList = [] := List.isEmpty_iff.mp h2
        have es : its.size = 0 := by rw [← Array.length_toList, e]; rfl
        exact .inr ⟨_, its, n, q, congrArg Value.type (of_decide_eq_true h1), rfl, by rw [es]; exact Nat.zero_le _, by rw [e]; exact .nil⟩
      | _ => cases h
    | _ => cases dt <;> cases h

def fa : List He.Fa := [
  .free "isinstance",
  .free "str",
  .free "len",
  .free "all",
  .free "any",
  .free "set",
  .free "list",
  .free "tuple",
  .free "sorted",
  .free "enumerate",
  .free "int",
  .free "abs",
  .free "range",
  .int "LONGEST_NAME" 8,
  .int "MOST_HOSTS" 40,
  .int "PAIR_partings" 2,
  .int "FOUR_partings" 4,
  .int "LEAST_SIDE" 2,
  .int "PAIR_trees" 2,
  .int "FOUR_trees" 4,
  .str "LETTERS" LET,
  .glo "Parting",
  .cls "Parting",
  .glo "Cut",
  .cls "Cut",
  .glo "Tree",
  .cls "Tree",
  .noat "Parting" "both_pairs",
  .noat "Parting" "all_four",
  .noat "Cut" "near_side",
  .noat "Cut" "far_side",
  .noat "Cut" "all_names",
  .noat "Tree" "all_names",
  .noat "Tree" "own_cuts",
  .glo "is_name",
  .glo "are_names",
  .glo "ascending_names",
  .glo "hosts_of",
  .glo "answers_of",
  .glo "is_side",
  .glo "ascending_cuts",
  .glo "in_order",
  .glo "first_crossing",
  .glo "need_cuts",
  .glo "need_same",
  .glo "_law_pen",
  .glo "_law_draw",
  .glo "_law_mixed",
  .glo "_law_hosts",
  .glo "_law_fars",
  .glo "_law_near",
  .glo "_law_cut",
  .glo "_law_tree",
  .glo "_law_all_cuts",
  .glo "_law_made",
  .mkr "Parting",
  .meth "Parting" "parting_place",
  .meth "Parting" "__lt__",
  .meth "Parting" "__eq__",
  .meth "Parting" "__str__",
  .mkr "Cut",
  .meth "Cut" "makes",
  .meth "Cut" "crosses",
  .meth "Cut" "only",
  .meth "Cut" "__eq__",
  .mkr "Tree",
  .meth "Tree" "need_host",
  .meth "Tree" "only",
  .meth "Tree" "__call__",
  .meth "Tree" "__contains__",
  .meth "Tree" "__and__",
  .meth "Tree" "__le__",
  .meth "Tree" "__ge__",
  .meth "Tree" "__eq__",
  .glo "chosen",
  .glo "fours_of",
  .glo "partings_of",
  .glo "_law_texts",
  .glo "_law_answers_right",
  .glo "_law_cuts_right",
  .glo "_law_pair_right",
  .glo "_law_some_right",
  .glo "law"]
def fn : List DefA := [
  gD "is_name" "is_name" (top 19) [],
  gD "are_names" "are_names" (top 20) [],
  gD "ascending_names" "ascending" (top 21) [],
  gD "hosts_of" "hosts_of" (top 23) [.int 40],
  gD "answers_of" "answers_of" (top 30) [],
  gD "is_side" "is_side" (top 34) [],
  gD "ascending_cuts" "ascending" (top 35) [],
  gD "in_order" "in_order" (top 38) [],
  gD "first_crossing" "first_crossing" (top 39) [],
  gD "need_cuts" "need_cuts" (top 48) [],
  gD "need_same" "need_same" (top 49) [],
  gD "_law_pen" "_law_pen" (top 52) [],
  gD "_law_draw" "_law_draw" (top 53) [],
  gD "_law_mixed" "_law_mixed" (top 55) [],
  gD "_law_hosts" "_law_hosts" (top 56) [],
  gD "_law_fars" "_law_fars" (top 57) [],
  gD "_law_near" "_law_near" (top 58) [],
  gD "_law_cut" "_law_cut" (top 59) [],
  gD "_law_tree" "_law_tree" (top 60) [],
  gD "_law_all_cuts" "_law_all_cuts" (top 62) [],
  gD "_law_made" "_law_made" (top 63) [],
  mD "Parting" "__init__" "Parting.__init__" (inClass (top 29) 0) [],
  pD "Parting" "four" "Parting.four" (inClass (top 29) 2),
  pD "Parting" "pairs" "Parting.pairs" (inClass (top 29) 3),
  mD "Parting" "parting_place" "Parting.parting_place" (inClass (top 29) 5) [],
  mD "Parting" "__lt__" "Parting.__lt__" (inClass (top 29) 6) [],
  mD "Parting" "__eq__" "Parting.__eq__" (inClass (top 29) 10) [],
  mD "Parting" "__str__" "Parting.__str__" (inClass (top 29) 11) [],
  mD "Cut" "__init__" "Cut.__init__" (inClass (top 37) 0) [],
  pD "Cut" "near" "Cut.near" (inClass (top 37) 2),
  pD "Cut" "far" "Cut.far" (inClass (top 37) 3),
  pD "Cut" "hosts" "Cut.hosts" (inClass (top 37) 4),
  mD "Cut" "makes" "Cut.makes" (inClass (top 37) 5) [],
  mD "Cut" "crosses" "Cut.crosses" (inClass (top 37) 6) [],
  mD "Cut" "only" "Cut.only" (inClass (top 37) 7) [],
  mD "Cut" "__eq__" "Cut.__eq__" (inClass (top 37) 12) [],
  mD "Tree" "__init__" "Tree.__init__" (inClass (top 50) 1) [.adr (He.dflAt ("Tree", some "__init__") 0)],
  pD "Tree" "hosts" "Tree.hosts" (inClass (top 50) 4),
  pD "Tree" "cuts" "Tree.cuts" (inClass (top 50) 5),
  mD "Tree" "need_host" "Tree.need_host" (inClass (top 50) 7) [],
  mD "Tree" "only" "Tree.only" (inClass (top 50) 10) [],
  mD "Tree" "__call__" "Tree.__call__" (inClass (top 50) 12) [],
  mD "Tree" "__contains__" "Tree.__contains__" (inClass (top 50) 14) [],
  mD "Tree" "__and__" "Tree.__and__" (inClass (top 50) 15) [],
  mD "Tree" "__le__" "Tree.__le__" (inClass (top 50) 18) [],
  mD "Tree" "__ge__" "Tree.__ge__" (inClass (top 50) 20) [],
  mD "Tree" "__eq__" "Tree.__eq__" (inClass (top 50) 22) [],
  gD "chosen" "chosen" (top 24) [],
  gD "fours_of" "fours_of" (top 25) [],
  gD "partings_of" "partings_of" (top 31) [],
  gD "_law_texts" "_law_texts" (top 64) [],
  gD "_law_answers_right" "_law_answers_right" (top 65) [],
  gD "_law_cuts_right" "_law_cuts_right" (top 66) [],
  gD "_law_pair_right" "_law_pair_right" (top 67) [],
  gD "_law_some_right" "_law_some_right" (top 68) [],
  gD "law" "law" (top 69) []]
def exO (K : PySem.W.Frag) : List Bool := [
  insB K "Parting",
  insB K "Cut",
  insB K "Tree",
  PySem.W.notFirst K (He.ga K "Parting") (.ref (He.ga K "Parting")),
  PySem.W.notFirst K (He.ga K "Cut") (.ref (He.ga K "Cut")),
  PySem.W.notFirst K (He.ga K "Tree") (.ref (He.ga K "Tree")),
  PySem.W.notFirst K (He.ga K "Parting") (.type "NoneType"),
  decide (PySem.W.subIn K (.ref (He.ga K "Parting")) (.type "NoneType") = some false),
  decide (PySem.W.kitOne K (.type "NoneType") (.ref (He.ga K "Parting")) = some false),
  PySem.W.selfFirst K (He.ga K "Tree"),
  tupA K (He.dflAt ("Tree", some "__init__") 0 K),
  prpB K "Parting" "four",
  prpB K "Parting" "pairs",
  prpB K "Cut" "near",
  prpB K "Cut" "far",
  prpB K "Cut" "hosts",
  prpB K "Tree" "hosts",
  prpB K "Tree" "cuts"]
def exB (K : PySem.W.Frag) : Bool := (exO K).all id
theorem exB_ok {K : PySem.W.Frag} (h : exB K = true) (i : Nat) {b : Bool} (e : (exO K)[i]? = some b) : b = true := List.all_eq_true.mp h b (List.mem_of_getElem? e)
abbrev R : PySem.W.OpenRow := PySem.W.OpenLaw.row PySem.Challenge.rw_seenframes_k20_whole_cuts_and_partings
abbrev qv : Program := PySem.W.view R.prog [69]
def names1 : List Str := ["_wall", "SeenError", "BadInput", "Refused", "BadHosts", "BadCut", "BadTree", "BadFour", "BadParting", "BadText", "NoHost", "Unlike", "TooMany", "Crossed", "LETTERS", "LONGEST_NAME", "MOST_HOSTS", "is_name", "are_names", "ascending", "ascending_names", "hosts_of", "chosen", "fours_of", "PAIR_partings", "FOUR_partings", "Parting", "answers_of", "partings_of"]
def names2 : List Str := ["LEAST_SIDE", "is_side", "ascending_cuts", "Cut", "in_order", "first_crossing", "holder_of", "parents_of", "text_behind", "groups_in", "PAIR_trees", "FOUR_trees", "need_cuts", "need_same", "Tree", "_law_pen", "_law_draw", "_law_pick", "_law_mixed", "_law_hosts", "_law_fars", "_law_near", "_law_cut", "_law_tree", "_law_up", "_law_all_cuts", "_law_made", "_law_texts", "_law_answers_right", "_law_cuts_right", "_law_pair_right", "_law_some_right"]
def names : List Str := names1 ++ names2
abbrev hkH : PySem.W.Hook := hookH fa fn exB
def obH (s : PySem.W.SharedT) : AlH := obsHG fa fn exB (HandSHeadRun.getT s)
theorem obH_eq (s : PySem.W.SharedT) : obH s = hkH.obs s.abs := obsHG_eq (HandSHeadRun.getT_eq s)
theorem runH (w : World) : HandSHeadRun.RunEq R qv hkH obH 20000 names w := by
  intro os
  kernel_rfl
end G
end

section
set_option Elab.async false
set_option linter.all false
set_option maxRecDepth 100000
/-! a model in which a generator that waits over another one is no loud one -/
namespace K0
open PySem
open Sem (wp)

/-- the object that is waited over -/
def yfA : Code → Option Addr
  | .builtin id ⟨.ref a :: _, _⟩ => if id = "proto.yield_from" then some a else none
  | _ => none
def isG (oo : Option Obj) : Bool := oo.any fun o => o.genNumber?.isSome
/-- the sign of a softened item -/
def mk : Value := .builtin "k0.soft"

def soft {α : Type} (a : Addr) : Sem α → Sem α
  | .pure x => .pure x
  | .raise e => .raise e
  | .unsupported w => .unsupported w
  | .finish e => .finish e
  | .rule t k => .rule t fun x => soft a (k x)
  | .at p k => .at p fun x => soft a (k x)
  | .load b p k => .load b p fun x => soft a (k x)
  | .update b p g k => .update b p g fun x => soft a (k x)
  | .alloc o k => .alloc o fun x => soft a (k x)
  | .loadIfAlive b k => .loadIfAlive b fun x => soft a (k x)
  | .point l k => .point l fun x => soft a (k x)
  | .register b k => .register b fun x => soft a (k x)
  | .fresh k => .fresh fun x => soft a (k x)
  | .ask k => .ask fun x => soft a (k x)
  | .choose s n k => .choose s n fun x => soft a (k x)
  | .os q l k => .os q l fun x => soft a (k x)
  | .call c h g l k => .call c h g l fun x => soft a (k x)
  | .handled o k => .handled o fun x => soft a (k x)
  | .newGen c k => .newGen c fun x => soft a (k x)
  | .genState g k => .genState g fun x => soft a (k x)
  | .resume g r l k => .resume g r l fun x => soft a (k x)
  | .yield v g l k => .loadIfAlive a fun oo => .yield v (g && !isG oo) (if (g && isG oo) = true then [mk] else []) fun x => soft a (k x)
  | .stack k => .stack fun x => soft a (k x)
  | .fork c k => .fork c fun x => soft a (k x)
  | .thread k => .thread fun x => soft a (k x)
  | .await b t d l k => .await b t d l fun x => soft a (k x)

def sfT (c : Code) (t : Sem Fin) : Sem Fin := match yfA c with | some a => soft a t | none => t
theorem sfT_none {c : Code} (h : yfA c = none) (t : Sem Fin) : sfT c t = t := by unfold sfT; rw [h]
theorem sfT_some {c : Code} {a : Addr} (h : yfA c = some a) (t : Sem Fin) : sfT c t = soft a t := by unfold sfT; rw [h]
def up (M : Model) : Model := ⟨fun c => sfT c (M.den c), M.prog, M.w⟩

def sfF : Frame → Frame
  | .ret k h g l c p kept => .ret (fun r => sfT c (k r)) h g l c p kept
  | .gen g k l c p => .gen g (fun r => sfT c (k r)) l c p
def sfL (c : Code) (l : List Value) : List Value := match yfA c with | some _ => [] | none => l
def sfG : GenState → GenState
  | .suspended k l c p fs cl => .suspended (fun r => sfT c (k r)) (sfL c l) c p (fs.map sfF) cl
  | x => x
def sfE : End → End
  | .ret r => .ret r
  | .susp v g l k c p fs => .susp v g (sfL c l) (fun r => sfT c (k r)) c p (fs.map sfF)

theorem sfF_where (F : Frame) : (sfF F).where_ = F.where_ := by cases F <;> rfl
theorem sfF_guarded (F : Frame) : (sfF F).guarded = F.guarded := by cases F <;> rfl
theorem map_where (fs : List Frame) : (fs.map sfF).map Frame.where_ = fs.map Frame.where_ := by
  rw [List.map_map]
  exact List.map_congr_left fun F _ => sfF_where F
theorem any_guarded (fs : List Frame) : (fs.map sfF).any Frame.guarded = fs.any Frame.guarded := by
  rw [List.any_map]
  congr 1
  exact funext sfF_guarded
theorem sfE_quiet (e : End) : (sfE e).quiet = e.quiet := by
  cases e with
  | ret r => rfl
  | susp v g l k c p fs => simp only [sfE, End.quiet, any_guarded]
theorem sfE_result (e : End) : (sfE e).result = e.result := by cases e <;> rfl
theorem sfE_genState (e : End) : (sfE e).genState = sfG e.genState := by
  cases e with
  | ret r => rfl
  | susp v g l k c p fs => simp only [sfE, End.genState, sfG, any_guarded]
theorem sfG_seen (x : GenState) : (sfG x).seen = x.seen := by
  cases x <;> simp only [sfG, GenState.seen, map_where]

/-! frames without a generator's -/
theorem split_map (fs : List Frame) : splitAtGen (fs.map sfF) = none ↔ splitAtGen fs = none := by
  induction fs with
  | nil => simp
  | cons F r ih =>
    cases F with
    | ret k h g l c p kp => simp only [List.map_cons, sfF, splitAtGen, Option.map_eq_none_iff, ih]
    | gen g k l c p => simp only [List.map_cons, sfF, splitAtGen]; simp
theorem split_app {a b : List Frame} (h : splitAtGen a = none) (h' : splitAtGen b = none) : splitAtGen (a ++ b) = none := by
  induction a with
  | nil => exact h'
  | cons F r ih =>
    cases F with
    | ret k hh g l c p kp =>
      simp only [List.cons_append, splitAtGen, Option.map_eq_none_iff] at h ⊢
      exact ih h
    | gen g k l c p => simp [splitAtGen] at h
theorem split_tail {k h g l c p kp} {fs : List Frame} (q : splitAtGen (.ret k h g l c p kp :: fs) = none) : splitAtGen fs = none := by
  simpa only [splitAtGen, Option.map_eq_none_iff] using q
theorem marks_map (fs : List Frame) (x) : marksOver (fs.map sfF) x = marksOver fs x := by
  unfold marksOver
  rw [List.foldr_map]
  congr 1
  funext F y
  cases F <;> rfl
theorem over_map (Γ : Ctx) {fs : List Frame} (h : splitAtGen fs = none) : Γ.over (fs.map sfF) = Γ.over fs := by
  unfold Ctx.over
  rw [marks_map, marks_map, map_where, h, (split_map fs).mpr h]

/-! the table of generators -/
def isS : Option GenState → Bool
  | some (.suspended ..) => true
  | _ => false
def pick (o : Option GenState) (x : GenState) : GenState := match o with
  | some (.suspended k l c p fs cl) => .suspended k l c p fs cl
  | _ => sfG x
theorem pick_no {o : Option GenState} (h : isS o = false) (x : GenState) : pick o x = sfG x := by
  cases o with
  | none => rfl
  | some y => cases y <;> first | rfl | cases h
theorem pick_yes {o : Option GenState} {y : GenState} (h : isS o = true) (e : o = some y) (x : GenState) : pick o x = y := by
  subst e
  cases y <;> first | rfl | cases h
def rst (g0 G : Array GenState) : Array GenState := G.mapIdx fun i x => pick g0[i]? x
theorem rst_get (g0 G : Array GenState) (i : Nat) : (rst g0 G)[i]? = G[i]?.map fun x => pick g0[i]? x := by
  simp [rst]
theorem rst_size (g0 G : Array GenState) : (rst g0 G).size = G.size := by simp [rst]
def poison : Resume → Sem Fin := fun _ => .unsupported ""
/-- G: the table while those suspended in g0 are hidden -/
structure J (g0 G : Array GenState) : Prop where
  hid : ∀ (i : Nat) k l c p fs cl, g0[i]? = some (GenState.suspended k l c p fs cl) → G[i]? = some (GenState.suspended poison l c p fs cl)
  clean : ∀ (i : Nat) k l c p fs cl, G[i]? = some (GenState.suspended k l c p fs cl) → isS g0[i]? = true ∨ splitAtGen fs = none
section
variable {g0 G : Array GenState} {g : Nat}
theorem J.at_hidden (j : J g0 G) (h : isS g0[g]? = true) : ∃ l c p fs cl, G[g]? = some (GenState.suspended poison l c p fs cl) := by
  cases e : g0[g]? with
  | none => rw [e] at h; cases h
  | some y =>
    rw [e] at h
    cases y with
    | suspended k l c p fs cl => exact ⟨_, _, _, _, _, j.hid g k l c p fs cl e⟩
    | _ => cases h
theorem J.set (j : J g0 G) (h : isS g0[g]? = false) {x : GenState} (hx : ∀ k l c p fs cl, x = GenState.suspended k l c p fs cl → splitAtGen fs = none) : J g0 (G.setIfInBounds g x) where
  hid := fun i k l c p fs cl e => by
    have hne : g ≠ i := by rintro rfl; rw [e] at h; cases h
    rw [Array.getElem?_setIfInBounds_ne hne]
    exact j.hid i k l c p fs cl e
  clean := fun i k l c p fs cl e => by
    by_cases hne : g = i
    · subst hne
      by_cases hi : g < G.size
      · rw [Array.getElem?_setIfInBounds_self_of_lt hi] at e
        exact .inr (hx k l c p fs cl (Option.some.inj e))
      · rw [Array.getElem?_eq_none (by simpa using hi)] at e; cases e
    · rw [Array.getElem?_setIfInBounds_ne hne] at e
      exact j.clean i k l c p fs cl e
theorem J.push (j : J g0 G) (c : Code) : J g0 (G.push (.fresh c)) where
  hid := fun i k l c' p fs cl e => by
    have q := j.hid i k l c' p fs cl e
    have hi := (Array.getElem?_eq_some_iff.mp q).1
    rw [Array.getElem?_push, if_neg (Nat.ne_of_lt hi)]; exact q
  clean := fun i k l c' p fs cl e => by
    rw [Array.getElem?_push] at e
    split at e
    · cases e
    · exact j.clean i k l c' p fs cl e
theorem rst_set (h : isS g0[g]? = false) (x : GenState) : rst g0 (G.setIfInBounds g x) = (rst g0 G).setIfInBounds g (sfG x) := by
  refine Array.ext_getElem? fun i => ?_
  rw [rst_get]
  by_cases hi : g = i
  · subst hi
    by_cases hl : g < G.size
    · rw [Array.getElem?_setIfInBounds_self_of_lt hl, Array.getElem?_setIfInBounds_self_of_lt (by rw [rst_size]; exact hl)]
      simp [pick_no h]
    · have h1 : (G.setIfInBounds g x)[g]? = none := Array.getElem?_eq_none (by simpa using hl)
      have h2 : ((rst g0 G).setIfInBounds g (sfG x))[g]? = none := Array.getElem?_eq_none (by simpa [rst_size] using hl)
      rw [h1, h2]; rfl
  · rw [Array.getElem?_setIfInBounds_ne hi, Array.getElem?_setIfInBounds_ne hi, rst_get]
theorem rst_push (j : J g0 G) (c : Code) : rst g0 (G.push (.fresh c)) = (rst g0 G).push (.fresh c) := by
  refine Array.ext_getElem? fun i => ?_
  rw [rst_get, Array.getElem?_push, Array.getElem?_push, rst_size, rst_get]
  by_cases hi : i = G.size
  · subst hi
    have hn : isS g0[G.size]? = false := by
      cases q : isS g0[G.size]? with
      | false => rfl
      | true =>
        obtain ⟨_, _, _, _, _, e⟩ := j.at_hidden q
        have := (Array.getElem?_eq_some_iff.mp e).1
        omega
    simp only [if_pos, Option.map_some, pick_no hn]
    rfl
  · rw [if_neg hi, if_neg hi]
theorem rst_some (h : isS g0[g]? = false) {x : GenState} (e : G[g]? = some x) : (rst g0 G)[g]? = some (sfG x) := by
  rw [rst_get, e, Option.map_some, pick_no h]
end

/-- nothing runs on from a refusal -/
theorem no_refused {M : Model} {Γ : Ctx} {p : Pos} {t : Sem Fin} {fs : List Frame} {s s' : Shared} {e : End} (h : Runs M Γ p t fs s e s') : ∀ w, t ≠ .unsupported w := by
  induction h <;> first | (intro w q; cases q; done) | assumption
def NE : End → Prop
  | .ret _ => True
  | .susp _ _ _ _ _ _ fs => splitAtGen fs = none
def Shared.re (s : Shared) (g0 : Array GenState) : Shared := { s with gens := rst g0 s.gens }

theorem run_up {M : Model} {g0 : Array GenState} {Γ : Ctx} {p : Pos} {t : Sem Fin} {fs : List Frame} {s s' : Shared} {e : End} (h : Runs M Γ p t fs s e s') :
    e.quiet = true → J g0 s.gens → splitAtGen fs = none → J g0 s'.gens ∧ NE e ∧ Runs (up M) Γ p (sfT Γ.code t) (fs.map sfF) (Shared.re s g0) (sfE e) (Shared.re s' g0) := by
  have two : ∀ (c : Code), yfA c = none ∨ ∃ a, yfA c = some a := fun c => by
    cases yfA c with
    | none => exact .inl rfl
    | some a => exact .inr ⟨a, rfl⟩
  have sf : ∀ {c : Code} {t t1 : Sem Fin}, (t = t1) → (∀ a, soft a t = t1) → sfT c t = t1 := fun {c t t1} h1 h2 => by
    rcases two c with z | ⟨a, z⟩
    · rw [sfT_none z]; exact h1
    · rw [sfT_some z]; exact h2 a
  induction h with
  | @done Γ p f s =>
    intro _ j _
    refine ⟨j, trivial, ?_⟩
    rw [sf (c := Γ.code) (t1 := .pure (.done f)) rfl fun _ => rfl]
    exact .done
  | @raise Γ p x s =>
    intro _ j _
    refine ⟨j, trivial, ?_⟩
    rw [sf (c := Γ.code) (t1 := .raise x) rfl fun _ => rfl]
    exact .raise
  | @again c p s e s' Γ hq _ ih =>
    intro q j hs
    obtain ⟨j', n, r⟩ := ih q j hs
    refine ⟨j', n, ?_⟩
    rw [sf (c := Γ.code) (t1 := .pure (.again c)) rfl fun _ => rfl]
    exact .again hq r
  | @rule Γ p k s e s' tag _ ih =>
    intro q j hs
    obtain ⟨j', n, r⟩ := ih q j hs
    refine ⟨j', n, ?_⟩
    rw [show sfT Γ.code (.rule tag k) = .rule tag fun x => sfT Γ.code (k x) by rcases two Γ.code with z | ⟨a, z⟩ <;> simp only [sfT, z, soft]]
    exact .rule r
  | @«at» Γ p' k s e s' p _ ih =>
    intro q j hs
    obtain ⟨j', n, r⟩ := ih q j hs
    refine ⟨j', n, ?_⟩
    rw [show sfT Γ.code (.at p' k) = .at p' fun x => sfT Γ.code (k x) by rcases two Γ.code with z | ⟨a, z⟩ <;> simp only [sfT, z, soft]]
    exact .at r
  | @load o Γ p k s e s' a part ho _ ih =>
    intro q j hs
    obtain ⟨j', n, r⟩ := ih q j hs
    refine ⟨j', n, ?_⟩
    rw [show sfT Γ.code (.load a part k) = .load a part fun x => sfT Γ.code (k x) by rcases two Γ.code with z | ⟨a, z⟩ <;> simp only [sfT, z, soft]]
    exact .load (s := Shared.re s g0) ho r
  | @update Γ p k s e s' a part f ha _ ih =>
    intro q j hs
    obtain ⟨j', n, r⟩ := ih q j hs
    refine ⟨j', n, ?_⟩
    rw [show sfT Γ.code (.update a part f k) = .update a part f fun x => sfT Γ.code (k x) by rcases two Γ.code with z | ⟨a, z⟩ <;> simp only [sfT, z, soft]]
    exact .update (s := Shared.re s g0) ha r
  | @loadIfAlive Γ p k s e s' a _ ih =>
    intro q j hs
    obtain ⟨j', n, r⟩ := ih q j hs
    refine ⟨j', n, ?_⟩
    rw [show sfT Γ.code (.loadIfAlive a k) = .loadIfAlive a fun x => sfT Γ.code (k x) by rcases two Γ.code with z | ⟨a, z⟩ <;> simp only [sfT, z, soft]]
    exact .loadIfAlive (s := Shared.re s g0) r
  | @point Γ p k s e s' l _ ih =>
    intro q j hs
    obtain ⟨j', n, r⟩ := ih q j hs
    refine ⟨j', n, ?_⟩
    rw [show sfT Γ.code (.point l k) = .point l fun x => sfT Γ.code (k x) by rcases two Γ.code with z | ⟨a, z⟩ <;> simp only [sfT, z, soft]]
    exact .point r
  | @alloc Γ p k s e s' o _ ih =>
    intro q j hs
    obtain ⟨j', n, r⟩ := ih q j hs
    refine ⟨j', n, ?_⟩
    rw [show sfT Γ.code (.alloc o k) = .alloc o fun x => sfT Γ.code (k x) by rcases two Γ.code with z | ⟨a, z⟩ <;> simp only [sfT, z, soft]]
    exact .alloc (s := Shared.re s g0) r
  | @fresh Γ p k s e s' _ ih =>
    intro q j hs
    obtain ⟨j', n, r⟩ := ih q j hs
    refine ⟨j', n, ?_⟩
    rw [show sfT Γ.code (.fresh k) = .fresh fun x => sfT Γ.code (k x) by rcases two Γ.code with z | ⟨a, z⟩ <;> simp only [sfT, z, soft]]
    exact .fresh (s := Shared.re s g0) r
  | @ask Γ p k s e s' _ ih =>
    intro q j hs
    obtain ⟨j', n, r⟩ := ih q j hs
    refine ⟨j', n, ?_⟩
    rw [show sfT Γ.code (.ask k) = .ask fun x => sfT Γ.code (k x) by rcases two Γ.code with z | ⟨a, z⟩ <;> simp only [sfT, z, soft]]
    exact .ask r
  | @choose n Γ p k s e s' src hn _ ih =>
    intro q j hs
    obtain ⟨j', n', r⟩ := ih q j hs
    refine ⟨j', n', ?_⟩
    rw [show sfT Γ.code (.choose src n k) = .choose src n fun x => sfT Γ.code (k x) by rcases two Γ.code with z | ⟨a, z⟩ <;> simp only [sfT, z, soft]]
    exact .choose (s := Shared.re s g0) hn r
  | @os Γ p k s e s' qq l _ ih =>
    intro q j hs
    obtain ⟨j', n, r⟩ := ih q j hs
    refine ⟨j', n, ?_⟩
    rw [show sfT Γ.code (.os qq l k) = .os qq l fun x => sfT Γ.code (k x) by rcases two Γ.code with z | ⟨a, z⟩ <;> simp only [sfT, z, soft]]
    exact .os (s := Shared.re s g0) r
  | @handled Γ p own k s e s' _ ih =>
    intro q j hs
    obtain ⟨j', n, r⟩ := ih q j hs
    refine ⟨j', n, ?_⟩
    rw [show sfT Γ.code (.handled own k) = .handled own fun x => sfT Γ.code (k x) by rcases two Γ.code with z | ⟨a, z⟩ <;> simp only [sfT, z, soft]]
    exact .handled r
  | @genState g st Γ p k s e s' hg _ ih =>
    intro q j hs
    obtain ⟨j', n, r⟩ := ih q j hs
    refine ⟨j', n, ?_⟩
    rw [show sfT Γ.code (.genState g k) = .genState g fun x => sfT Γ.code (k x) by rcases two Γ.code with z | ⟨a, z⟩ <;> simp only [sfT, z, soft]]
    obtain ⟨st', h1, h2⟩ : ∃ st', (rst g0 s.gens)[g]? = some st' ∧ st'.seen = st.seen := by
      cases hh : isS g0[g]? with
      | false => exact ⟨_, rst_some hh hg, sfG_seen st⟩
      | true =>
        cases eg : g0[g]? with
        | none => rw [eg] at hh; cases hh
        | some y =>
          cases y with
          | suspended k l c p fs cl =>
            have e1 := j.hid g k l c p fs cl eg
            rw [hg] at e1
            have e2 := Option.some.inj e1
            refine ⟨.suspended k l c p fs cl, ?_, by rw [e2]; rfl⟩
            rw [rst_get, hg, eg]; rfl
          | _ => rw [eg] at hh; cases hh
    refine .genState (s := Shared.re s g0) h1 ?_
    rw [h2]; exact r
  | @stack Γ p k s e s' _ ih =>
    intro q j hs
    obtain ⟨j', n, r⟩ := ih q j hs
    refine ⟨j', n, ?_⟩
    rw [show sfT Γ.code (.stack k) = .stack fun x => sfT Γ.code (k x) by rcases two Γ.code with z | ⟨a, z⟩ <;> simp only [sfT, z, soft]]
    exact .stack r
  | @thread Γ p k s e s' _ ih =>
    intro q j hs
    obtain ⟨j', n, r⟩ := ih q j hs
    refine ⟨j', n, ?_⟩
    rw [show sfT Γ.code (.thread k) = .thread fun x => sfT Γ.code (k x) by rcases two Γ.code with z | ⟨a, z⟩ <;> simp only [sfT, z, soft]]
    exact .thread r
  | @newGen Γ p k s e s' c _ ih =>
    intro q j hs
    obtain ⟨j', n, r⟩ := ih q (j.push c) hs
    refine ⟨j', n, ?_⟩
    rw [show sfT Γ.code (.newGen c k) = .newGen c fun x => sfT Γ.code (k x) by rcases two Γ.code with z | ⟨a, z⟩ <;> simp only [sfT, z, soft]]
    have e1 : Shared.re { s with gens := s.gens.push (.fresh c) } g0 = { Shared.re s g0 with gens := (Shared.re s g0).gens.push (.fresh c) } := by
      show ({ s with gens := rst g0 (s.gens.push (.fresh c)) } : Shared) = _
      rw [rst_push j c]; rfl
    rw [e1] at r
    refine .newGen ?_
    rw [show (Shared.re s g0).gens.size = s.gens.size from rst_size _ _]
    exact r
  | @call Γ p c h g l k s r s₁ e s' _ _ ih1 ih2 =>
    intro q j hs
    obtain ⟨j1, _, r1⟩ := ih1 rfl j rfl
    obtain ⟨j2, n, r2⟩ := ih2 q j1 hs
    refine ⟨j2, n, ?_⟩
    rw [show sfT Γ.code (.call c h g l k) = .call c h g l fun x => sfT Γ.code (k x) by rcases two Γ.code with z | ⟨a, z⟩ <;> simp only [sfT, z, soft]]
    exact .call r1 r2
  | @callSusp Γ p c h g l k s v g₀ l₀ k₀ c₀ p₀ fs s' _ ih =>
    intro q j hs
    have q' : (End.susp v g₀ l₀ k₀ c₀ p₀ fs).quiet = true := by
      simp only [End.quiet, List.any_append, Bool.not_eq_true', Bool.or_eq_false_iff] at q ⊢
      exact ⟨q.1, q.2.1⟩
    obtain ⟨j', n, r⟩ := ih q' j rfl
    refine ⟨j', split_app n rfl, ?_⟩
    rw [show sfT Γ.code (.call c h g l k) = .call c h g l fun x => sfT Γ.code (k x) by rcases two Γ.code with z | ⟨a, z⟩ <;> simp only [sfT, z, soft]]
    have r' := Runs.callSusp (M := up M) (Γ := Γ) (p := p) (c := c) (h := h) (g := g) (l := l) (k := fun x => sfT Γ.code (k x)) r
    simp only [sfE, List.map_append, List.map_cons, List.map_nil, sfF] at r' ⊢
    exact r'
  | @yield Γ p v g l k s =>
    intro q j hs
    refine ⟨j, rfl, ?_⟩
    have hg : g = false := by
      simpa [End.quiet] using q
    subst hg
    rcases two Γ.code with z | ⟨a, z⟩
    · rw [sfT_none z]
      have e1 : sfE (.susp v false l k Γ.code p []) = .susp v false l k Γ.code p [] := by
        simp only [sfE, sfL, z, List.map_nil, sfT]
      rw [e1]
      exact .yield
    · rw [sfT_some z]
      simp only [soft]
      refine .loadIfAlive ?_
      have e1 : sfE (.susp v false l k Γ.code p []) = .susp v false [] (fun r => soft a (k r)) Γ.code p [] := by
        simp only [sfE, sfL, z, List.map_nil, sfT]
      rw [e1]
      simp only [Bool.false_and, Bool.false_eq_true, if_false]
      exact .yield
  | @resumeFresh Γ p g l k s c e₁ s₁ e s' hg _ hq _ ih1 ih2 =>
    intro q j hs
    have hn : isS g0[g]? = false := by
      cases hh : isS g0[g]? with
      | false => rfl
      | true =>
        obtain ⟨_, _, _, _, _, e⟩ := j.at_hidden hh
        rw [hg] at e; cases e
    obtain ⟨j1, n1, r1⟩ := ih1 hq (j.set hn fun _ _ _ _ _ _ z => by cases z) rfl
    obtain ⟨j2, n2, r2⟩ := ih2 q (j1.set hn fun k l c p fs cl z => by
      cases e₁ with
      | ret r => cases z
      | susp v g l k c p fs' =>
        simp only [End.genState, GenState.suspended.injEq] at z
        obtain ⟨_, _, _, _, z, _⟩ := z
        subst z
        exact n1) hs
    refine ⟨j2, n2, ?_⟩
    rw [show sfT Γ.code (.resume g (.send .none) l k) = .resume g (.send .none) l fun x => sfT Γ.code (k x) by rcases two Γ.code with z | ⟨a, z⟩ <;> simp only [sfT, z, soft]]
    refine .resumeFresh (e₁ := sfE e₁) (s₁ := Shared.re s₁ g0) (rst_some hn hg) ?_ ((sfE_quiet e₁).trans hq) ?_
    · have e2 : Shared.re (s.setGen g .running) g0 = (Shared.re s g0).setGen g .running := by
        show ({ s with gens := rst g0 (s.gens.setIfInBounds g .running) } : Shared) = _
        rw [rst_set hn]; rfl
      rw [e2] at r1
      exact r1
    · have e2 : Shared.re (s₁.setGen g e₁.genState) g0 = (Shared.re s₁ g0).setGen g (sfE e₁).genState := by
        show ({ s₁ with gens := rst g0 (s₁.gens.setIfInBounds g e₁.genState) } : Shared) = _
        rw [rst_set hn, sfE_genState]; rfl
      rw [e2] at r2
      rw [sfE_result]
      exact r2
  | @resumeSuspended Γ p g r l k s k₀ l₀ c₀ p₀ fs cl e₁ s₁ e s' hg hr hq _ ih1 ih2 =>
    intro q j hs
    have hn : isS g0[g]? = false := by
      cases hh : isS g0[g]? with
      | false => rfl
      | true =>
        obtain ⟨l, c, p, fs, cl, e⟩ := j.at_hidden hh
        rw [hg] at e
        simp only [Option.some.injEq, GenState.suspended.injEq] at e
        have : k₀ r = .unsupported "" := by rw [e.1]; rfl
        exact (no_refused hr _ this).elim
    have hfs : splitAtGen fs = none := (j.clean g _ _ _ _ _ _ hg).resolve_left (by rw [hn]; simp)
    obtain ⟨j1, n1, r1⟩ := ih1 hq (j.set hn fun _ _ _ _ _ _ z => by cases z) hfs
    obtain ⟨j2, n2, r2⟩ := ih2 q (j1.set hn fun k l c p fs cl z => by
      cases e₁ with
      | ret r => cases z
      | susp v g l k c p fs' =>
        simp only [End.genState, GenState.suspended.injEq] at z
        obtain ⟨_, _, _, _, z, _⟩ := z
        subst z
        exact n1) hs
    refine ⟨j2, n2, ?_⟩
    rw [show sfT Γ.code (.resume g r l k) = .resume g r l fun x => sfT Γ.code (k x) by rcases two Γ.code with z | ⟨a, z⟩ <;> simp only [sfT, z, soft]]
    refine .resumeSuspended (e₁ := sfE e₁) (s₁ := Shared.re s₁ g0) (rst_some hn hg) ?_ ((sfE_quiet e₁).trans hq) ?_
    · have e2 : Shared.re (s.setGen g .running) g0 = (Shared.re s g0).setGen g .running := by
        show ({ s with gens := rst g0 (s.gens.setIfInBounds g .running) } : Shared) = _
        rw [rst_set hn]; rfl
      rw [e2] at r1
      exact r1
    · have e2 : Shared.re (s₁.setGen g e₁.genState) g0 = (Shared.re s₁ g0).setGen g (sfE e₁).genState := by
        show ({ s₁ with gens := rst g0 (s₁.gens.setIfInBounds g e₁.genState) } : Shared) = _
        rw [rst_set hn, sfE_genState]; rfl
      rw [e2] at r2
      rw [sfE_result]
      exact r2
  | @resumeJustStarted g v Γ p k s e s' l c hg hv _ ih =>
    intro q j hs
    have hn : isS g0[g]? = false := by
      cases hh : isS g0[g]? with
      | false => rfl
      | true =>
        obtain ⟨_, _, _, _, _, e⟩ := j.at_hidden hh
        rw [hg] at e; cases e
    obtain ⟨j', n, r⟩ := ih q j hs
    refine ⟨j', n, ?_⟩
    rw [show sfT Γ.code (.resume g (.send v) l k) = .resume g (.send v) l fun x => sfT Γ.code (k x) by rcases two Γ.code with z | ⟨a, z⟩ <;> simp only [sfT, z, soft]]
    exact .resumeJustStarted (s := Shared.re s g0) (rst_some hn hg) hv r
  | @resumeThrowFresh g Γ p k e s' x l s c hg _ ih =>
    intro q j hs
    have hn : isS g0[g]? = false := by
      cases hh : isS g0[g]? with
      | false => rfl
      | true =>
        obtain ⟨_, _, _, _, _, e⟩ := j.at_hidden hh
        rw [hg] at e; cases e
    obtain ⟨j', n, r⟩ := ih q (j.set hn fun _ _ _ _ _ _ z => by cases z) hs
    refine ⟨j', n, ?_⟩
    rw [show sfT Γ.code (.resume g (.throw x) l k) = .resume g (.throw x) l fun x => sfT Γ.code (k x) by rcases two Γ.code with z | ⟨a, z⟩ <;> simp only [sfT, z, soft]]
    refine .resumeThrowFresh (s := Shared.re s g0) (rst_some hn hg) ?_
    have e2 : Shared.re (s.setGen g .finished) g0 = (Shared.re s g0).setGen g .finished := by
      show ({ s with gens := rst g0 (s.gens.setIfInBounds g .finished) } : Shared) = _
      rw [rst_set hn]; rfl
    rw [e2] at r
    exact r
  | @resumeRunning g Γ p k s e s' r l hg _ ih =>
    intro q j hs
    have hn : isS g0[g]? = false := by
      cases hh : isS g0[g]? with
      | false => rfl
      | true =>
        obtain ⟨_, _, _, _, _, e⟩ := j.at_hidden hh
        rw [hg] at e; cases e
    obtain ⟨j', n, r'⟩ := ih q j hs
    refine ⟨j', n, ?_⟩
    rw [show sfT Γ.code (.resume g r l k) = .resume g r l fun x => sfT Γ.code (k x) by rcases two Γ.code with z | ⟨a, z⟩ <;> simp only [sfT, z, soft]]
    exact .resumeRunning (s := Shared.re s g0) (rst_some hn hg) r'
  | @resumeFinished g Γ p k s e s' r l hg _ ih =>
    intro q j hs
    have hn : isS g0[g]? = false := by
      cases hh : isS g0[g]? with
      | false => rfl
      | true =>
        obtain ⟨_, _, _, _, _, e⟩ := j.at_hidden hh
        rw [hg] at e; cases e
    obtain ⟨j', n, r'⟩ := ih q j hs
    refine ⟨j', n, ?_⟩
    rw [show sfT Γ.code (.resume g r l k) = .resume g r l fun x => sfT Γ.code (k x) by rcases two Γ.code with z | ⟨a, z⟩ <;> simp only [sfT, z, soft]]
    exact .resumeFinished (s := Shared.re s g0) (rst_some hn hg) r'
  | @segRet Γ p t k h g l c₁ p₁ kp fs s r s₁ e s' _ _ ih1 ih2 =>
    intro q j hs
    obtain ⟨j1, _, r1⟩ := ih1 rfl j rfl
    obtain ⟨j2, n, r2⟩ := ih2 q j1 (split_tail hs)
    refine ⟨j2, n, ?_⟩
    have e1 := over_map Γ hs
    simp only [List.map_cons, sfF] at e1 ⊢
    refine .segRet (s₁ := Shared.re s₁ g0) (r := r) ?_ r2
    rw [e1]
    exact r1
  | segGen => intro q j hs; simp [splitAtGen] at hs
  | @segSuspOut Γ p t F fs s v g₀ l₀ k₀ c₀ p₀ fs₀ s' hsp _ ih =>
    intro q j hs
    have q' : (End.susp v g₀ l₀ k₀ c₀ p₀ fs₀).quiet = true := by
      simp only [End.quiet, List.any_append, Bool.not_eq_true', Bool.or_eq_false_iff] at q ⊢
      exact ⟨q.1, q.2.1⟩
    obtain ⟨j', n, r⟩ := ih q' j rfl
    refine ⟨j', split_app n hs, ?_⟩
    have e1 := over_map Γ hs
    have h3 : splitAtGen (sfF F :: fs.map sfF) = none := (split_map (F :: fs)).mpr hs
    have r' := Runs.segSuspOut (M := up M) (Γ := Γ) (p := p) (t := sfT Γ.code t) (F := sfF F) (fs := fs.map sfF) h3 (by
      rw [show sfF F :: fs.map sfF = (F :: fs).map sfF from rfl, e1]
      exact r)
    simp only [sfE, List.map_append, List.map_cons] at r' ⊢
    exact r'
  | segSuspGen hsp => intro q j hs; rw [hs] at hsp; cases hsp
end K0
end

section
set_option Elab.async false
set_option linter.all false
set_option maxRecDepth 100000
namespace K0
open PySem PyProof.Rows
open Sem (wp)

theorem isS_no {g0 G : Array GenState} {g : Nat} (j : J g0 G) {x : GenState} (hg : G[g]? = some x) (hx : ∀ l c p fs cl, x ≠ .suspended poison l c p fs cl) : isS g0[g]? = false := by
  cases hh : isS g0[g]? with
  | false => rfl
  | true =>
    obtain ⟨l, c, p, fs, cl, e⟩ := j.at_hidden hh
    rw [hg] at e
    exact (hx l c p fs cl (Option.some.inj e)).elim
theorem re_setGen {g0 : Array GenState} {s : Shared} {g : Nat} (hn : isS g0[g]? = false) (x : GenState) : Shared.re (s.setGen g x) g0 = (Shared.re s g0).setGen g (sfG x) := by
  show ({ s with gens := rst g0 (s.gens.setIfInBounds g x) } : Shared) = _
  rw [rst_set hn]; rfl
theorem end_clean {e : End} (h : NE e) : ∀ k l c p fs cl, e.genState = GenState.suspended k l c p fs cl → splitAtGen fs = none := fun k l c p fs cl z => by
  cases e with
  | ret r => cases z
  | susp v g l k c p fs' =>
    simp only [End.genState, GenState.suspended.injEq] at z
    obtain ⟨_, _, _, _, z, _⟩ := z
    subst z
    exact h
theorem wakes_up {M : Model} {g0 : Array GenState} {Γ : Ctx} {p : Pos} {g : Nat} {r : Resume} {s s' : Shared} {res : GenResult} (h : Wakes M Γ p g r s res s') (j : J g0 s.gens) :
    J g0 s'.gens ∧ Wakes (up M) Γ p g r (Shared.re s g0) res (Shared.re s' g0) := by
  unfold Wakes at h
  cases hg : s.gens[g]? with
  | none => rw [hg] at h; exact h.elim
  | some x =>
    rw [hg] at h
    cases x with
    | fresh c =>
      have hn := isS_no j hg (fun _ _ _ _ _ z => by cases z)
      have e0 := rst_some hn hg
      cases r with
      | throw x =>
        obtain ⟨rfl, rfl⟩ := h
        refine ⟨j.set hn fun _ _ _ _ _ _ z => by (cases z), ?_⟩
        unfold Wakes
        rw [show (Shared.re s g0).gens[g]? = _ from e0]
        exact ⟨rfl, re_setGen hn _⟩
      | send v =>
        have e0' : (Shared.re s g0).gens[g]? = some (.fresh c) := e0
        cases v with
        | none =>
          obtain ⟨e₁, s₁, hr, hq, rfl, rfl⟩ := h
          obtain ⟨j1, n1, r1⟩ := run_up hr hq (j.set hn fun _ _ _ _ _ _ z => by (cases z)) rfl
          refine ⟨j1.set hn (end_clean n1), ?_⟩
          unfold Wakes
          rw [e0']
          rw [re_setGen hn] at r1
          exact ⟨sfE e₁, Shared.re s₁ g0, r1, (sfE_quiet e₁).trans hq, (sfE_result e₁).symm, by rw [re_setGen hn, sfE_genState]⟩
        | _ =>
          obtain ⟨rfl, rfl⟩ := h
          refine ⟨j, ?_⟩
          unfold Wakes
          rw [e0']
          exact ⟨rfl, rfl⟩
    | suspended k₀ l₀ c₀ p₀ fs cl =>
      obtain ⟨e₁, s₁, hr, hq, rfl, rfl⟩ := h
      have hn : isS g0[g]? = false := isS_no j hg fun l c p fs cl z => by
        simp only [GenState.suspended.injEq] at z
        have : k₀ r = .unsupported "" := by rw [z.1]; rfl
        exact no_refused hr _ this
      have hfs : splitAtGen fs = none := (j.clean g _ _ _ _ _ _ hg).resolve_left (by rw [hn]; simp)
      obtain ⟨j1, n1, r1⟩ := run_up hr hq (j.set hn fun _ _ _ _ _ _ z => by (cases z)) hfs
      refine ⟨j1.set hn (end_clean n1), ?_⟩
      unfold Wakes
      rw [show (Shared.re s g0).gens[g]? = _ from rst_some hn hg]
      rw [re_setGen hn] at r1
      exact ⟨sfE e₁, Shared.re s₁ g0, r1, (sfE_quiet e₁).trans hq, (sfE_result e₁).symm, by rw [re_setGen hn, sfE_genState]⟩
    | running =>
      obtain ⟨rfl, rfl⟩ := h
      have hn := isS_no j hg (fun _ _ _ _ _ z => by cases z)
      refine ⟨j, ?_⟩
      unfold Wakes
      rw [show (Shared.re _ g0).gens[g]? = _ from rst_some hn hg]
      exact ⟨rfl, rfl⟩
    | finished =>
      obtain ⟨rfl, rfl⟩ := h
      have hn := isS_no j hg (fun _ _ _ _ _ z => by cases z)
      refine ⟨j, ?_⟩
      unfold Wakes
      rw [show (Shared.re _ g0).gens[g]? = _ from rst_some hn hg]
      exact ⟨rfl, rfl⟩

theorem seen_re {g0 G : Array GenState} {g : Nat} {st : GenState} (j : J g0 G) (hg : G[g]? = some st) : ∃ st', (rst g0 G)[g]? = some st' ∧ st'.seen = st.seen := by
  cases hh : isS g0[g]? with
  | false => exact ⟨_, rst_some hh hg, sfG_seen st⟩
  | true =>
    cases eg : g0[g]? with
    | none => rw [eg] at hh; cases hh
    | some y =>
      cases y with
      | suspended k l c p fs cl =>
        have e1 := j.hid g k l c p fs cl eg
        rw [hg] at e1
        have e2 := Option.some.inj e1
        refine ⟨.suspended k l c p fs cl, ?_, by rw [e2]; rfl⟩
        rw [rst_get, hg, eg]; rfl
      | _ => rw [eg] at hh; cases hh

theorem wp_up {α : Type} {M : Model} {g0 : Array GenState} {Γ : Ctx} (t : Sem α) : ∀ (Q : α → Pos → Shared → Prop) (E : Value → Pos → Shared → Prop) (p : Pos) (s : Shared), J g0 s.gens → wp M Γ t Q E p s →
    wp (up M) Γ t (fun a p' s' => ∃ s₁, s' = Shared.re s₁ g0 ∧ J g0 s₁.gens ∧ Q a p' s₁) (fun e p' s' => ∃ s₁, s' = Shared.re s₁ g0 ∧ J g0 s₁.gens ∧ E e p' s₁) p (Shared.re s g0) := by
  induction t with
  | pure a => intro Q E p s j h; exact ⟨s, rfl, j, h⟩
  | raise e => intro Q E p s j h; exact ⟨s, rfl, j, h⟩
  | unsupported _ => intro Q E p s _ h; exact h
  | finish _ => intro Q E p s _ h; exact h
  | rule _ k ih => intro Q E p s j h; exact ih () Q E p s j h
  | «at» p' k ih => intro Q E p s j h; exact ih () Q E p' s j h
  | load a _ k ih => intro Q E p s j h; obtain ⟨o, ho, h⟩ := h; exact ⟨o, ho, ih o Q E p s j h⟩
  | update a _ f k ih => intro Q E p s j h; exact ⟨h.1, ih () Q E p { s with heap := s.heap.update a f } j h.2⟩
  | loadIfAlive a k ih => intro Q E p s j h; exact ih _ Q E p s j h
  | point _ k ih => intro Q E p s j h; exact ih () Q E p s j h
  | register _ _ => intro Q E p s _ h; exact h
  | alloc o k ih => intro Q E p s j h; exact ih _ Q E p { s with heap := s.heap.push o } j h
  | fresh k ih => intro Q E p s j h; exact ih _ Q E p { s with toks := s.toks + 1 } j h
  | ask k ih => intro Q E p s j h; exact ih _ Q E p s j h
  | choose src m k ih => intro Q E p s j h; exact ⟨h.1, ih _ Q E p { s with drawn := s.drawn.bump src } j h.2⟩
  | os q _ k ih => intro Q E p s j h; exact ih _ Q E p { s with os := (Os.step s.os q).1 } j h
  | call c hd _ _ k ih =>
    intro Q E p s j h
    obtain ⟨r, s', hr, h⟩ := h
    obtain ⟨j1, _, r1⟩ := run_up hr rfl j rfl
    exact ⟨r, Shared.re s' g0, r1, ih r Q E p s' j1 h⟩
  | handled own k ih => intro Q E p s j h; exact ih _ Q E p s j h
  | genState g k ih =>
    intro Q E p s j h
    obtain ⟨st, hs, h⟩ := h
    obtain ⟨st', h1, h2⟩ := seen_re j hs
    refine ⟨st', h1, ?_⟩
    rw [h2]
    exact ih _ Q E p s j h
  | newGen c k ih =>
    intro Q E p s j h
    have q := ih _ Q E p { s with gens := s.gens.push (.fresh c) } (j.push c) h
    have e1 : Shared.re { s with gens := s.gens.push (.fresh c) } g0 = { Shared.re s g0 with gens := (Shared.re s g0).gens.push (.fresh c) } := by
      show ({ s with gens := rst g0 (s.gens.push (.fresh c)) } : Shared) = _
      rw [rst_push j c]; rfl
    rw [e1] at q
    show wp (up M) Γ (k (Shared.re s g0).gens.size) _ _ p _
    rw [show (Shared.re s g0).gens.size = s.gens.size from rst_size _ _]
    exact q
  | resume g r _ k ih =>
    intro Q E p s j h
    obtain ⟨res, s', hw, h⟩ := h
    obtain ⟨j1, w1⟩ := wakes_up hw j
    exact ⟨res, Shared.re s' g0, w1, ih res Q E p s' j1 h⟩
  | yield _ _ _ _ => intro Q E p s _ h; exact h
  | stack k ih => intro Q E p s j h; exact ih _ Q E p s j h
  | fork _ _ => intro Q E p s _ h; exact h
  | thread k ih => intro Q E p s j h; exact ih _ Q E p s j h
  | await _ _ _ _ _ => intro Q E p s _ h; exact h

/-! the state with what sleeps hidden -/
def pz : GenState → GenState
  | .suspended k l c p fs cl => .suspended poison l c p fs cl
  | x => x
def psn (s : Shared) : Shared := { s with gens := s.gens.map pz }
theorem psn_re (s : Shared) : Shared.re (psn s) s.gens = s := by
  show ({ s with gens := rst s.gens (s.gens.map pz) } : Shared) = s
  have e : rst s.gens (s.gens.map pz) = s.gens := by
    refine Array.ext_getElem? fun i => ?_
    rw [rst_get, Array.getElem?_map]
    cases s.gens[i]? with
    | none => rfl
    | some x => cases x <;> rfl
  rw [e]
theorem psn_J (s : Shared) : J s.gens (psn s).gens where
  hid := fun i k l c p fs cl e => by
    show (s.gens.map pz)[i]? = _
    rw [Array.getElem?_map, e]; rfl
  clean := fun i k l c p fs cl e => by
    have e : (s.gens.map pz)[i]? = _ := e
    rw [Array.getElem?_map] at e
    refine .inl ?_
    cases q : s.gens[i]? with
    | none => rw [q] at e; cases e
    | some x => rw [q] at e; cases x <;> first | rfl | cases e
/-- behind a run over hidden sleepers -/
structure Back (s s₁ s' : Shared) : Prop where
  re : s' = Shared.re s₁ s.gens
  j : J s.gens s₁.gens
theorem wpAny_up {α : Type} {M : Model} {A : Around} {t : Sem α} {Q : α → Shared → Prop} {E : Value → Shared → Prop} {s : Shared} (h : wpAny M A t Q E (psn s)) :
    wpAny (up M) A t (fun a s' => ∃ s₁, Back s s₁ s' ∧ Q a s₁) (fun e s' => ∃ s₁, Back s s₁ s' ∧ E e s₁) s := by
  intro Γ p hΓ
  have q := wp_up (g0 := s.gens) t _ _ p (psn s) (psn_J s) (h Γ p hΓ)
  rw [psn_re] at q
  exact Sem.wp_mono (up M) Γ t (fun a p' s' ⟨s₁, e, j, z⟩ => ⟨s₁, ⟨e, j⟩, z⟩) (fun a p' s' ⟨s₁, e, j, z⟩ => ⟨s₁, ⟨e, j⟩, z⟩) p s q

/-! what is marked: the places but those in B -/
def Um (B : List Nat) (G : Array GenState) : Prop := ∀ (i : Nat) k l c p fs cl, G[i]? = some (GenState.suspended k l c p fs cl) → i ∉ B → yfA c ≠ none → l = []
section
variable {s s₁ s' : Shared}
theorem Back.heap (b : Back s s₁ s') : s'.heap = s₁.heap := by rw [b.re]; rfl
theorem Back.os (b : Back s s₁ s') : s'.os = s₁.os := by rw [b.re]; rfl
theorem Back.keep (b : Back s s₁ s') {i : Nat} {k l c p fs cl} (e : s.gens[i]? = some (GenState.suspended k l c p fs cl)) : s'.gens[i]? = some (GenState.suspended k l c p fs cl) := by
  have e1 := b.j.hid i k l c p fs cl e
  rw [b.re]
  show (rst s.gens s₁.gens)[i]? = _
  rw [rst_get, e1, e]; rfl
theorem sfG_bare (x : GenState) : (sfG x).bare = x.bare := by cases x <;> rfl
theorem Back.bare (b : Back s s₁ s') (h : AllBare s.gens) (h1 : AllBare s₁.gens) : AllBare s'.gens := fun y hy => by
  obtain ⟨i, hi, rfl⟩ := Array.mem_iff_getElem.mp hy
  have e : s'.gens[i]? = some s'.gens[i] := Array.getElem?_eq_getElem hi
  have e1 : s'.gens[i]? = s₁.gens[i]?.map fun x => pick s.gens[i]? x := by
    rw [b.re]; exact rst_get _ _ _
  rw [e] at e1
  cases q : s₁.gens[i]? with
  | none => rw [q] at e1; cases e1
  | some x =>
    rw [q] at e1
    have e2 : s'.gens[i] = pick s.gens[i]? x := Option.some.inj e1
    rw [e2]
    cases hh : isS s.gens[i]? with
    | false => rw [pick_no hh, sfG_bare]; exact h1 x (Array.mem_of_getElem? q)
    | true =>
      cases z : s.gens[i]? with
      | none => rw [z] at hh; cases hh
      | some y =>
        rw [z] at hh
        cases y with
        | suspended k l c p fs cl => exact h _ (Array.mem_of_getElem? z)
        | _ => cases hh
theorem Back.um (b : Back s s₁ s') {B : List Nat} (h : Um B s.gens) : Um B s'.gens := fun i k l c p fs cl e hB hy => by
  have e1 : s'.gens[i]? = s₁.gens[i]?.map fun x => pick s.gens[i]? x := by
    rw [b.re]; exact rst_get _ _ _
  rw [e] at e1
  cases q : s₁.gens[i]? with
  | none => rw [q] at e1; cases e1
  | some x =>
    rw [q] at e1
    have e2 : GenState.suspended k l c p fs cl = pick s.gens[i]? x := Option.some.inj e1
    cases hh : isS s.gens[i]? with
    | false =>
      rw [pick_no hh] at e2
      cases x with
      | suspended k' l' c' p' fs' cl' =>
        simp only [sfG, GenState.suspended.injEq] at e2
        obtain ⟨_, el, ec, _⟩ := e2
        subst ec
        rw [el]
        unfold sfL
        cases z : yfA c with
        | none => exact absurd z hy
        | some a => rfl
      | _ => cases e2
    | true =>
      cases z : s.gens[i]? with
      | none => rw [z] at hh; cases hh
      | some y =>
        rw [z] at hh e2
        cases y with
        | suspended k' l' c' p' fs' cl' =>
          simp only [pick, GenState.suspended.injEq] at e2
          obtain ⟨_, el, ec, _⟩ := e2
          subst ec el
          exact h i _ _ _ _ _ _ z hB hy
        | _ => cases hh
theorem psn_bare (h : AllBare s.gens) : AllBare (psn s).gens := fun y hy => by
  have hy : y ∈ s.gens.map pz := hy
  obtain ⟨x, hx, rfl⟩ := Array.mem_map.mp hy
  have := h x hx
  cases x <;> exact this
end
end K0
end

section
set_option Elab.async false
set_option linter.all false
set_option maxRecDepth 100000
namespace K0
open PySem PyProof.Rows PySem.W

section
variable {den : Code → Sem PySem.Fin} {P : Program} {w : World}
def den0 (den : Code → Sem PySem.Fin) : Code → Sem PySem.Fin := fun c => sfT c (den c)

/-- an entry of the softened table, one of the real -/
def GR (x0 x : GenState) : Prop := match x with
  | .suspended k l c p fs cl => ∃ l0, x0 = .suspended (fun r => sfT c (k r)) l0 c p (fs.map sfF) false ∧ (cl = true → yfA c ≠ none ∧ l0 ≠ [])
  | x => x0 = x
structure GS (G0 G : Array GenState) : Prop where
  size : G0.size = G.size
  at_ : ∀ (i : Nat) x, G[i]? = some x → ∃ x0, G0[i]? = some x0 ∧ GR x0 x
theorem GS.set {G0 G : Array GenState} (h : GS G0 G) {g : Nat} {x0 x : GenState} (hx : GR x0 x) : GS (G0.setIfInBounds g x0) (G.setIfInBounds g x) where
  size := by simpa using h.size
  at_ := fun i y e => by
    by_cases hi : g = i
    · subst hi
      by_cases hl : g < G.size
      · rw [Array.getElem?_setIfInBounds_self_of_lt hl] at e
        have := Option.some.inj e
        subst this
        exact ⟨x0, Array.getElem?_setIfInBounds_self_of_lt (by rw [h.size]; exact hl), hx⟩
      · rw [Array.getElem?_eq_none (by simpa using hl)] at e; cases e
    · rw [Array.getElem?_setIfInBounds_ne hi] at e ⊢
      exact h.at_ i y e
theorem GS.push {G0 G : Array GenState} (h : GS G0 G) (c : Code) : GS (G0.push (.fresh c)) (G.push (.fresh c)) where
  size := by simpa using h.size
  at_ := fun i y e => by
    rw [Array.getElem?_push] at e ⊢
    rw [h.size]
    split at e
    · rename_i hi
      rw [if_pos hi]
      have := Option.some.inj e
      subst this
      exact ⟨_, rfl, rfl⟩
    · rename_i hi
      rw [if_neg hi]
      exact h.at_ i y e
theorem GR.seen {x0 x : GenState} (h : GR x0 x) : x0.seen = x.seen := by
  cases x with
  | suspended k l c p fs cl =>
    obtain ⟨l0, rfl, _⟩ := h
    simp only [GenState.seen, map_where]
  | _ => exact congrArg GenState.seen h
theorem no_clean {G0 G : Array GenState} (h : GS G0 G) (u : Um [] G0) : leftWithCleanup G = false := by
  unfold leftWithCleanup
  rw [Array.any_eq_false']
  intro x hx
  obtain ⟨i, hi, rfl⟩ := Array.mem_iff_getElem.mp hx
  obtain ⟨x0, e0, r⟩ := h.at_ i _ (Array.getElem?_eq_getElem hi)
  cases q : G[i] with
  | suspended k l c p fs cl =>
    rw [q] at r
    obtain ⟨l0, rfl, z⟩ := r
    cases cl with
    | false => simp
    | true =>
      obtain ⟨z1, z2⟩ := z rfl
      exact absurd (u i _ _ _ _ _ _ e0 (by simp) z1) z2
  | _ => simp
theorem split_sf (st : List Frame) : splitAtGen (st.map sfF) = (splitAtGen st).map fun (fs, (g, k, c, p), r) => (fs.map sfF, (g, (fun x => sfT c (k x)), c, p), r.map sfF) := by
  induction st with
  | nil => rfl
  | cons F r ih =>
    cases F with
    | ret k h g l c p kp =>
      simp only [List.map_cons, sfF, splitAtGen, ih]
      cases splitAtGen r with
      | none => rfl
      | some x =>
        obtain ⟨fs, ⟨g', k', c', p'⟩, rr⟩ := x
        simp [sfF]
    | gen g k l c p => simp [splitAtGen, sfF]
theorem topHandled_go_sf (b : Bool) (st : List Frame) : topHandled.go b (st.map sfF) = topHandled.go b st := by
  induction st generalizing b with
  | nil => rfl
  | cons F r ih =>
    cases F with
    | gen g k l c p =>
      simp only [List.map_cons, sfF]
      unfold topHandled.go
      exact ih false
    | ret k h g l c p kp =>
      simp only [List.map_cons, sfF]
      cases b with
      | true =>
        unfold topHandled.go
        exact ih true
      | false =>
        cases h with
        | none =>
          unfold topHandled.go
          exact ih false
        | some e =>
          unfold topHandled.go
          split
          · exact ih true
          · rfl
theorem topHandled_sf (st : List Frame) : topHandled (st.map sfF) = topHandled st := topHandled_go_sf false st

/-- the two states -/
structure SS (s0 s : Shared) : Prop where
  heap : s0.heap = s.heap
  drawn : s0.drawn = s.drawn
  toks : s0.toks = s.toks
  os : s0.os = s.os
  gens : GS s0.gens s.gens
inductive TR (h : Heap) : Thread → Thread → Prop
  | same (cur : Sem PySem.Fin) (code : Code) (pos : Pos) (st : List Frame) : TR h ⟨sfT code cur, code, pos, st.map sfF⟩ ⟨cur, code, pos, st⟩
  | half (v : Value) (g : Bool) (l : List Value) (k : Resume → Sem PySem.Fin) (a : Addr) (code : Code) (pos : Pos) (st : List Frame) (hy : yfA code = some a) :
      TR h ⟨.yield v (g && !isG (h.get? a)) (if (g && isG (h.get? a)) = true then [mk] else []) fun x => soft a (k x), code, pos, st.map sfF⟩ ⟨.yield v g l k, code, pos, st⟩

/-- a yield over a generator is a step like any other, while nothing is watched -/
theorem run_yield {s : Shared} {v : Value} {g : Bool} {l : List Value} {k : Resume → Sem PySem.Fin} {code : Code} {pos : Pos} {st fs : List Frame} {b : Nat × (GenResult → Sem PySem.Fin) × Code × Pos} {rest : List Frame} (hz : s.asleep)
    (hsp : splitAtGen st = some (fs, b, rest)) (hfs : fs.any Frame.guarded = false) (hsh : closingShows s fs code g = false) :
    sstep den P w (.single s ⟨.yield v g l k, code, pos, st⟩) = (step den P w s ⟨.yield v g l k, code, pos, st⟩).lift := by
  obtain ⟨hr, hc⟩ := hz
  have hm : (Config.single s ⟨.yield v g l k, code, pos, st⟩).moves w.params.profile = [.run 0] := by
    simp [Config.moves, Config.single, movesFrom, Thread.moves, Thread.atomic, Thread.rests, Thread.tells]
  have hl : ∀ others, lifeStep den P w others s ⟨.yield v g l k, code, pos, st⟩ = step den P w s ⟨.yield v g l k, code, pos, st⟩ := by
    intro others
    unfold lifeStep
    split
    · simp only [collectorTurn?, hsp, hsh, Bool.false_and, Bool.false_eq_true, if_false, Thread.atItsEnd]
      exact stepCounting_eq_step den P w s _ hc
    · exact stepCounting_eq_step den P w s _ hc
  have h1 : (Config.single s ⟨.yield v g l k, code, pos, st⟩).collect? w.params = none := by
    simp [Config.collect?, Config.single, (nothing_to_collect _ _ _ s _ hr).1]
  have h2 : (Config.single s ⟨.yield v g l k, code, pos, st⟩).collectable = [] := by
    simp [Config.collectable, Config.single, (nothing_to_collect w.params _ _ s _ hr).2]
  have hp : (Config.single s ⟨.yield v g l k, code, pos, st⟩).pick w = .ok (.run 0, .single s ⟨.yield v g l k, code, pos, st⟩) := by
    simp only [Config.pick, h1, h2, Config.pickThread, hm]
    cases w.params.lifetimes <;> simp
  unfold sstep
  rw [hp]
  show (Config.single s ⟨.yield v g l k, code, pos, st⟩).run den P w 0 = _
  simp only [Config.run, Config.single]
  simp [hl, others_single, frozenBadly, ThreadState.insideWrite, Thread.finalizes]
  split <;> simp_all [Step.lift, Config.single]
end
end K0
end

section
set_option Elab.async false
set_option linter.all false
set_option maxRecDepth 100000
namespace K0
open PySem PyProof.Rows PySem.W
theorem sfT_rule (c : Code) (tag : String) (k : Unit → Sem PySem.Fin) : sfT c (Sem.rule tag k) = .rule tag fun x => sfT c (k x) := by
  unfold sfT; cases yfA c <;> rfl
theorem sfT_at (c : Code) (p : Pos) (k : Unit → Sem PySem.Fin) : sfT c (Sem.«at» p k) = .at p fun x => sfT c (k x) := by
  unfold sfT; cases yfA c <;> rfl
theorem sfT_load (c : Code) (a : Addr) (p : Option Value) (k : Obj → Sem PySem.Fin) : sfT c (Sem.load a p k) = .load a p fun x => sfT c (k x) := by
  unfold sfT; cases yfA c <;> rfl
theorem sfT_update (c : Code) (a : Addr) (p : Option Value) (f : Obj → Obj) (k : Unit → Sem PySem.Fin) : sfT c (Sem.update a p f k) = .update a p f fun x => sfT c (k x) := by
  unfold sfT; cases yfA c <;> rfl
theorem sfT_alloc (c : Code) (o : Obj) (k : Addr → Sem PySem.Fin) : sfT c (Sem.alloc o k) = .alloc o fun x => sfT c (k x) := by
  unfold sfT; cases yfA c <;> rfl
theorem sfT_loadIfAlive (c : Code) (a : Addr) (k : Option Obj → Sem PySem.Fin) : sfT c (Sem.loadIfAlive a k) = .loadIfAlive a fun x => sfT c (k x) := by
  unfold sfT; cases yfA c <;> rfl
theorem sfT_point (c : Code) (l : List Value) (k : Unit → Sem PySem.Fin) : sfT c (Sem.point l k) = .point l fun x => sfT c (k x) := by
  unfold sfT; cases yfA c <;> rfl
theorem sfT_register (c : Code) (a : Addr) (k : Unit → Sem PySem.Fin) : sfT c (Sem.register a k) = .register a fun x => sfT c (k x) := by
  unfold sfT; cases yfA c <;> rfl
theorem sfT_fresh (c : Code) (k : Tok → Sem PySem.Fin) : sfT c (Sem.fresh k) = .fresh fun x => sfT c (k x) := by
  unfold sfT; cases yfA c <;> rfl
theorem sfT_ask (c : Code) (k : Setting → Sem PySem.Fin) : sfT c (Sem.ask k) = .ask fun x => sfT c (k x) := by
  unfold sfT; cases yfA c <;> rfl
theorem sfT_choose (c : Code) (src : Source) (n : Nat) (k : Nat → Sem PySem.Fin) : sfT c (Sem.choose src n k) = .choose src n fun x => sfT c (k x) := by
  unfold sfT; cases yfA c <;> rfl
theorem sfT_os (c : Code) (q : OsRequest) (l : List Value) (k : OsReply → Sem PySem.Fin) : sfT c (Sem.os q l k) = .os q l fun x => sfT c (k x) := by
  unfold sfT; cases yfA c <;> rfl
theorem sfT_call (c : Code) (c' : Code) (h : Option Value) (g : Bool) (l : List Value) (k : Result → Sem PySem.Fin) : sfT c (Sem.call c' h g l k) = .call c' h g l fun x => sfT c (k x) := by
  unfold sfT; cases yfA c <;> rfl
theorem sfT_handled (c : Code) (o : Bool) (k : Option Value → Sem PySem.Fin) : sfT c (Sem.handled o k) = .handled o fun x => sfT c (k x) := by
  unfold sfT; cases yfA c <;> rfl
theorem sfT_newGen (c : Code) (c' : Code) (k : Nat → Sem PySem.Fin) : sfT c (Sem.newGen c' k) = .newGen c' fun x => sfT c (k x) := by
  unfold sfT; cases yfA c <;> rfl
theorem sfT_genState (c : Code) (g : Nat) (k : GenStatus × Option (List (Code × Pos)) → Sem PySem.Fin) : sfT c (Sem.genState g k) = .genState g fun x => sfT c (k x) := by
  unfold sfT; cases yfA c <;> rfl
theorem sfT_resume (c : Code) (g : Nat) (r : Resume) (l : List Value) (k : GenResult → Sem PySem.Fin) : sfT c (Sem.resume g r l k) = .resume g r l fun x => sfT c (k x) := by
  unfold sfT; cases yfA c <;> rfl
theorem sfT_stack (c : Code) (k : List (Code × Pos) → Sem PySem.Fin) : sfT c (Sem.stack k) = .stack fun x => sfT c (k x) := by
  unfold sfT; cases yfA c <;> rfl
theorem sfT_fork (c : Code) (c' : Code) (k : Nat → Sem PySem.Fin) : sfT c (Sem.fork c' k) = .fork c' fun x => sfT c (k x) := by
  unfold sfT; cases yfA c <;> rfl
theorem sfT_thread (c : Code) (k : Nat → Sem PySem.Fin) : sfT c (Sem.thread k) = .thread fun x => sfT c (k x) := by
  unfold sfT; cases yfA c <;> rfl
theorem sfT_await (c : Code) (a : Addr) (t : Obj → Option Obj) (d : Bool) (l : List Value) (k : Bool → Sem PySem.Fin) : sfT c (Sem.await a t d l k) = .await a t d l fun x => sfT c (k x) := by
  unfold sfT; cases yfA c <;> rfl
theorem sfT_pure (c : Code) (x : PySem.Fin) : sfT c (Sem.pure x) = .pure x := by
  unfold sfT; cases yfA c <;> rfl
theorem sfT_raise (c : Code) (x : Value) : sfT c (Sem.raise x) = .raise x := by
  unfold sfT; cases yfA c <;> rfl
theorem sfT_unsupported (c : Code) (x : String) : sfT c (Sem.unsupported x) = .unsupported x := by
  unfold sfT; cases yfA c <;> rfl
theorem sfT_finish (c : Code) (x : Ending) : sfT c (Sem.finish x) = .finish x := by
  unfold sfT; cases yfA c <;> rfl
section
variable {den : Code → Sem PySem.Fin} {P : Program} {w : World}
theorem calm_any {s : Shared} {t s' t'} (hz : s.asleep) (hc : t.calm = true) (h : step den P w s t = .go s' t') : sstep den P w (.single s t) = .go (.single s' t') ∧ s'.asleep := by
  refine ⟨?_, ?_⟩
  · rcases sstep_single den P w s t hc hz with e | e
    · rw [e, h]; rfl
    · rw [h] at e; cases e
  · unfold Shared.asleep
    rw [step_life den P w s s' t t' h]
    exact hz
/-- a turn to a next code goes on alike over a stack and over the softened one: what becomes of the stack is the machine's own word -/
theorem step_again (code c : Code) (st : List Frame) : ∃ st' : List Frame,
    (∀ (dn : Code → Sem PySem.Fin) (Q : Program) (v : World) (s : Shared) (pos : Pos), step dn Q v s ⟨.pure (.again c), code, pos, st⟩ = .go s ⟨dn c, c, pos, st'⟩) ∧
    ∀ (dn : Code → Sem PySem.Fin) (Q : Program) (v : World) (s : Shared) (pos : Pos), step dn Q v s ⟨.pure (.again c), code, pos, st.map sfF⟩ = .go s ⟨dn c, c, pos, st'.map sfF⟩ := by
  cases st with
  | nil => cases code <;> cases c <;> exact ⟨[], fun _ _ _ _ _ => rfl, fun _ _ _ _ _ => rfl⟩
  | cons F r =>
    cases F with
    | gen g k l cd p => cases code <;> cases c <;> exact ⟨_, fun _ _ _ _ _ => rfl, fun _ _ _ _ _ => rfl⟩
    | ret k h g l cd p kp => cases code <;> cases c <;> exact ⟨_, fun _ _ _ _ _ => rfl, fun _ _ _ _ _ => rfl⟩
theorem go_inj {s s1 : Shared} {t t1 : Thread} (h : Step.go s t = .go s1 t1) : s1 = s ∧ t1 = t := by
  cases h; exact ⟨rfl, rfl⟩
theorem yf_is {code : Code} {a : Addr} (h : yfA code = some a) : ∃ r kw, code = .builtin "proto.yield_from" ⟨.ref a :: r, kw⟩ := by
  cases code with
  | builtin id args =>
    obtain ⟨pos, kw⟩ := args
    cases pos with
    | nil => cases h
    | cons x r =>
      cases x with
      | ref b =>
        have h1 : (if id = "proto.yield_from" then some b else none) = some a := h
        by_cases e : id = "proto.yield_from"
        · rw [if_pos e] at h1
          have := Option.some.inj h1
          subst this e
          exact ⟨r, kw, rfl⟩
        · rw [if_neg e] at h1; cases h1
      | _ => cases h
  | _ => cases h

theorem step_sim {s0 s s0' : Shared} {t0 t t0' : Thread} (h : SS s0 s) (ht : TR s.heap t0 t) (hz : s.asleep) (hc : t0.calm = true) (hs : step (den0 den) P w s0 t0 = .go s0' t0') :
    (SS s0' s ∧ TR s.heap t0' t) ∨ ∃ s' t', sstep den P w (.single s t) = .go (.single s' t') ∧ SS s0' s' ∧ TR s'.heap t0' t' ∧ s'.asleep := by
  obtain ⟨heap0, gens0, drawn0, toks0, os0⟩ := s0
  obtain ⟨heap, gens, drawn, toks, os⟩ := s
  obtain ⟨h1, h2, h3, h4, h5⟩ := h
  simp only at h1 h2 h3 h4 h5
  subst h1 h2 h3 h4
  have fin : ∀ {t s' t'}, Thread.calm t = true → step den P w ⟨heap0, gens, drawn0, toks0, os0⟩ t = .go s' t' → SS s0' s' → TR s'.heap t0' t' →
      ((SS s0' ⟨heap0, gens, drawn0, toks0, os0⟩ ∧ TR heap0 t0' t) ∨ ∃ s' t', sstep den P w (.single ⟨heap0, gens, drawn0, toks0, os0⟩ t) = .go (.single s' t') ∧ SS s0' s' ∧ TR s'.heap t0' t' ∧ s'.asleep) :=
    fun {t s' t'} c e a b => .inr ⟨s', t', (calm_any hz c e).1, a, b, (calm_any hz c e).2⟩
  cases ht with
  | half v g l k a code pos st hy =>
    obtain ⟨r, kw, ec⟩ := yf_is hy
    have hsp0 := split_sf st
    cases hsp : splitAtGen st with
    | none =>
      rw [hsp] at hsp0
      simp only [step, hsp0, Option.map_none] at hs
      cases hs
    | some x =>
      obtain ⟨fs, ⟨gg, kk, c', p'⟩, rest⟩ := x
      rw [hsp] at hsp0
      simp only [Option.map_some] at hsp0
      simp only [step, hsp0] at hs
      obtain ⟨rfl, rfl⟩ := go_inj hs
      have hcalm : (g && !isG (heap0.get? a)) = false ∧ fs.any Frame.guarded = false := by
        have q := hc
        simp only [Thread.calm, Thread.yieldsInsideHandler, hsp0, any_guarded, Bool.and_eq_true, Bool.not_eq_true', Bool.or_eq_false_iff] at q
        exact q.1.2
      obtain ⟨hg, hfg⟩ := hcalm
      have hstep : step den P w ⟨heap0, gens, drawn0, toks0, os0⟩ ⟨.yield v g l k, code, pos, st⟩ =
          .go ⟨heap0, gens.setIfInBounds gg (.suspended k l code pos fs (g || fs.any Frame.guarded)), drawn0, toks0, os0⟩ ⟨kk (.yielded v), c', p', rest⟩ := by
        simp only [step, hsp]
      have hsh : closingShows ⟨heap0, gens, drawn0, toks0, os0⟩ fs code g = false := by
        unfold closingShows
        rw [hfg, Bool.false_or]
        cases g with
        | false => rfl
        | true =>
          have hG : isG (heap0.get? a) = true := by simpa using hg
          subst ec
          show (true && delegateShows _ (.ref a)) = false
          unfold delegateShows
          simp only [Bool.true_and]
          cases e : heap0.get? a with
          | none => rfl
          | some o =>
            rw [e] at hG
            have hG : o.genNumber?.isSome = true := by simpa [isG] using hG
            obtain ⟨n, hn⟩ := Option.isSome_iff_exists.mp hG
            simp only [hn]
            have hr : heap0.life.registered = [] := hz.1
            rw [hr]; rfl
      have hss := run_yield (den := den) (P := P) (w := w) (s := ⟨heap0, gens, drawn0, toks0, os0⟩) (v := v) (l := l) (k := k) (pos := pos) hz hsp hfg hsh
      refine .inr ⟨⟨heap0, gens.setIfInBounds gg (.suspended k l code pos fs (g || fs.any Frame.guarded)), drawn0, toks0, os0⟩, ⟨kk (.yielded v), c', p', rest⟩, by rw [hss, hstep]; rfl, ⟨rfl, rfl, rfl, rfl, h5.set ?_⟩, .same _ _ _ _, hz⟩
      refine ⟨if (g && isG (heap0.get? a)) = true then [mk] else [], ?_, fun hcl => ?_⟩
      · simp only [any_guarded, hg, hfg, Bool.or_false, sfT_some hy]
      · rw [hfg, Bool.or_false] at hcl
        subst hcl
        have hG : isG (heap0.get? a) = true := by simpa using hg
        refine ⟨by rw [hy]; simp, ?_⟩
        rw [hG]; simp
  | same cur code pos st =>
    cases cur with
    | yield v g l k =>
      cases hy : yfA code with
      | some a =>
        rw [sfT_some hy] at hs
        simp only [soft, step] at hs
        obtain ⟨rfl, rfl⟩ := go_inj hs
        exact .inl ⟨⟨rfl, rfl, rfl, rfl, h5⟩, .half v g l k a code pos st hy⟩
      | none =>
        rw [sfT_none hy] at hs hc
        have hsp0 := split_sf st
        cases hsp : splitAtGen st with
        | none =>
          rw [hsp] at hsp0
          simp only [step, hsp0, Option.map_none] at hs
          cases hs
        | some x =>
          obtain ⟨fs, ⟨gg, kk, c', p'⟩, rest⟩ := x
          rw [hsp] at hsp0
          simp only [Option.map_some] at hsp0
          simp only [step, hsp0] at hs
          obtain ⟨rfl, rfl⟩ := go_inj hs
          have hcalm : g = false ∧ fs.any Frame.guarded = false := by
            have q := hc
            simp only [Thread.calm, Thread.yieldsInsideHandler, hsp0, any_guarded, Bool.and_eq_true, Bool.not_eq_true', Bool.or_eq_false_iff] at q
            exact q.1.2
          obtain ⟨hg, hfg⟩ := hcalm
          have hstep : step den P w ⟨heap0, gens, drawn0, toks0, os0⟩ ⟨.yield v g l k, code, pos, st⟩ =
              .go ⟨heap0, gens.setIfInBounds gg (.suspended k l code pos fs (g || fs.any Frame.guarded)), drawn0, toks0, os0⟩ ⟨kk (.yielded v), c', p', rest⟩ := by
            simp only [step, hsp]
          refine fin ?_ hstep ⟨rfl, rfl, rfl, rfl, h5.set ⟨l, ?_, fun hcl => ?_⟩⟩ (.same _ _ _ _)
          · simp only [Thread.calm, Thread.yieldsInsideHandler, hsp, hg, hfg, Thread.atCollectorCode]
            rfl
          · simp only [any_guarded, hg, hfg, Bool.or_false, sfT_none hy]
          · rw [hg, hfg] at hcl; cases hcl
    | pure fin' =>
      rw [sfT_pure] at hs hc
      cases fin' with
      | again c =>
        obtain ⟨st', e1, e2⟩ := step_again code c st
        rw [e2] at hs
        obtain ⟨rfl, rfl⟩ := go_inj hs
        exact fin (by exact hc) (e1 den P w _ pos) ⟨rfl, rfl, rfl, rfl, h5⟩ (.same _ _ _ _)
      | done f =>
        cases st with
        | nil =>
          simp only [List.map_nil, step, finish] at hs
          split at hs <;> cases hs
        | cons F rest =>
          cases F with
          | ret k hh g l c p kp =>
            simp only [List.map_cons, sfF, step] at hs
            obtain ⟨rfl, rfl⟩ := go_inj hs
            exact fin (t := ⟨.pure (.done f), code, pos, .ret k hh g l c p kp :: rest⟩) rfl rfl ⟨rfl, rfl, rfl, rfl, h5⟩ (.same _ _ _ _)
          | gen g k l c p =>
            simp only [List.map_cons, sfF, step] at hs
            obtain ⟨rfl, rfl⟩ := go_inj hs
            exact fin (t := ⟨.pure (.done f), code, pos, .gen g k l c p :: rest⟩) rfl rfl ⟨rfl, rfl, rfl, rfl, h5.set rfl⟩ (.same _ _ _ _)
    | raise e =>
      rw [sfT_raise] at hs hc
      cases st with
      | nil =>
        simp only [List.map_nil, step, finish] at hs
        split at hs <;> cases hs
      | cons F rest =>
        cases F with
        | ret k hh g l c p kp =>
          simp only [List.map_cons, sfF, step] at hs
          obtain ⟨rfl, rfl⟩ := go_inj hs
          exact fin (t := ⟨.raise e, code, pos, .ret k hh g l c p kp :: rest⟩) rfl rfl ⟨rfl, rfl, rfl, rfl, h5⟩ (.same _ _ _ _)
        | gen g k l c p =>
          simp only [List.map_cons, sfF, step] at hs
          obtain ⟨rfl, rfl⟩ := go_inj hs
          exact fin (t := ⟨.raise e, code, pos, .gen g k l c p :: rest⟩) rfl rfl ⟨rfl, rfl, rfl, rfl, h5.set rfl⟩ (.same _ _ _ _)
    | unsupported x => rw [sfT_unsupported] at hs; cases hs
    | finish e =>
      rw [sfT_finish] at hs
      simp only [step] at hs
      split at hs <;> cases hs
    | rule tag k =>
      rw [sfT_rule] at hs
      simp only [step] at hs
      obtain ⟨rfl, rfl⟩ := go_inj hs
      exact fin (t := ⟨.rule tag k, code, pos, st⟩) rfl rfl ⟨rfl, rfl, rfl, rfl, h5⟩ (.same _ _ _ _)
    | «at» p k =>
      rw [sfT_at] at hs
      simp only [step] at hs
      obtain ⟨rfl, rfl⟩ := go_inj hs
      exact fin (t := ⟨.at p k, code, pos, st⟩) rfl rfl ⟨rfl, rfl, rfl, rfl, h5⟩ (.same _ _ _ _)
    | load a p k =>
      rw [sfT_load] at hs
      simp only [step] at hs
      cases e : heap0.get? a with
      | none => rw [e] at hs; cases hs
      | some o =>
        rw [e] at hs
        obtain ⟨rfl, rfl⟩ := go_inj hs
        exact fin (t := ⟨.load a p k, code, pos, st⟩) (s' := ⟨heap0, gens, drawn0, toks0, os0⟩) (t' := ⟨k o, code, pos, st⟩) rfl (by simp only [step, e]) ⟨rfl, rfl, rfl, rfl, h5⟩ (.same _ _ _ _)
    | update a p f k =>
      rw [sfT_update] at hs
      simp only [step] at hs
      split at hs
      · rename_i e
        obtain ⟨rfl, rfl⟩ := go_inj hs
        exact fin (t := ⟨.update a p f k, code, pos, st⟩) (s' := ⟨heap0.update a f, gens, drawn0, toks0, os0⟩) (t' := ⟨k (), code, pos, st⟩) rfl (by simp only [step, e, if_true]) ⟨rfl, rfl, rfl, rfl, h5⟩ (.same _ _ _ _)
      · cases hs
    | alloc o k =>
      rw [sfT_alloc] at hs
      simp only [step] at hs
      obtain ⟨rfl, rfl⟩ := go_inj hs
      exact fin (t := ⟨.alloc o k, code, pos, st⟩) (s' := ⟨heap0.push o, gens, drawn0, toks0, os0⟩) (t' := ⟨k heap0.objs.size, code, pos, st⟩) rfl rfl ⟨rfl, rfl, rfl, rfl, h5⟩ (.same _ _ _ _)
    | loadIfAlive a k =>
      rw [sfT_loadIfAlive] at hs
      simp only [step] at hs
      obtain ⟨rfl, rfl⟩ := go_inj hs
      exact fin (t := ⟨.loadIfAlive a k, code, pos, st⟩) rfl rfl ⟨rfl, rfl, rfl, rfl, h5⟩ (.same _ _ _ _)
    | point l k =>
      rw [sfT_point] at hs
      simp only [step] at hs
      obtain ⟨rfl, rfl⟩ := go_inj hs
      exact fin (t := ⟨.point l k, code, pos, st⟩) rfl rfl ⟨rfl, rfl, rfl, rfl, h5⟩ (.same _ _ _ _)
    | register a k => rw [sfT_register] at hs; cases hs
    | fresh k =>
      rw [sfT_fresh] at hs
      simp only [step] at hs
      obtain ⟨rfl, rfl⟩ := go_inj hs
      exact fin (t := ⟨.fresh k, code, pos, st⟩) (s' := ⟨heap0, gens, drawn0, toks0 + 1, os0⟩) (t' := ⟨k toks0, code, pos, st⟩) rfl rfl ⟨rfl, rfl, rfl, rfl, h5⟩ (.same _ _ _ _)
    | ask k =>
      rw [sfT_ask] at hs
      simp only [step] at hs
      obtain ⟨rfl, rfl⟩ := go_inj hs
      exact fin (t := ⟨.ask k, code, pos, st⟩) rfl rfl ⟨rfl, rfl, rfl, rfl, h5⟩ (.same _ _ _ _)
    | choose src n k =>
      rw [sfT_choose] at hs
      simp only [step] at hs
      split at hs
      · cases hs
      · rename_i e
        obtain ⟨rfl, rfl⟩ := go_inj hs
        exact fin (t := ⟨.choose src n k, code, pos, st⟩) (s' := ⟨heap0, gens, drawn0.bump src, toks0, os0⟩) (t' := ⟨k (w.draws src (drawn0.get src) % n), code, pos, st⟩) rfl (by simp only [step, e, if_false]) ⟨rfl, rfl, rfl, rfl, h5⟩ (.same _ _ _ _)
    | os q l k =>
      rw [sfT_os] at hs
      simp only [step] at hs
      obtain ⟨rfl, rfl⟩ := go_inj hs
      exact fin (t := ⟨.os q l k, code, pos, st⟩) (s' := ⟨heap0, gens, drawn0, toks0, (Os.step os0 q).1⟩) (t' := ⟨k (Os.step os0 q).2, code, pos, st⟩) rfl rfl ⟨rfl, rfl, rfl, rfl, h5⟩ (.same _ _ _ _)
    | call c hh g l k =>
      rw [sfT_call] at hs
      simp only [step] at hs
      obtain ⟨rfl, rfl⟩ := go_inj hs
      exact fin (t := ⟨.call c hh g l k, code, pos, st⟩) rfl rfl ⟨rfl, rfl, rfl, rfl, h5⟩ (TR.same (den c) c pos (Frame.ret k hh g l code pos _ :: st))
    | handled own k =>
      rw [sfT_handled] at hs
      simp only [step] at hs
      obtain ⟨rfl, rfl⟩ := go_inj hs
      have tr : ∀ x y, x = y → TR heap0 ⟨sfT code (k x), code, pos, st.map sfF⟩ ⟨k y, code, pos, st⟩ := by
        rintro _ _ rfl
        exact .same _ _ _ _
      refine fin (t := ⟨.handled own k, code, pos, st⟩) rfl rfl ⟨rfl, rfl, rfl, rfl, h5⟩ (tr _ _ ?_)
      cases own with
      | false => exact topHandled_sf st
      | true =>
        simp only [if_true, split_sf]
        cases splitAtGen st with
        | none => exact topHandled_sf st
        | some x =>
          obtain ⟨fs, ⟨g', k', c', p'⟩, rr⟩ := x
          exact topHandled_sf fs
    | newGen c k =>
      rw [sfT_newGen] at hs
      simp only [step] at hs
      obtain ⟨rfl, rfl⟩ := go_inj hs
      refine fin (t := ⟨.newGen c k, code, pos, st⟩) rfl rfl ⟨rfl, rfl, rfl, rfl, h5.push c⟩ ?_
      rw [h5.size]
      exact .same _ _ _ _
    | genState g k =>
      rw [sfT_genState] at hs
      simp only [step] at hs
      cases e0 : gens0[g]? with
      | none => rw [e0] at hs; cases hs
      | some x0 =>
        rw [e0] at hs
        have hl : g < gens.size := by
          rw [← h5.size]
          exact (Array.getElem?_eq_some_iff.mp e0).1
        obtain ⟨x0', e1, r⟩ := h5.at_ g _ (Array.getElem?_eq_getElem hl)
        rw [e0] at e1
        have := Option.some.inj e1
        subst this
        obtain ⟨rfl, rfl⟩ := go_inj hs
        have es := r.seen
        refine fin (t := ⟨.genState g k, code, pos, st⟩) (s' := ⟨heap0, gens, drawn0, toks0, os0⟩) (t' := ⟨k gens[g].seen, code, pos, st⟩) rfl ?_ ⟨rfl, rfl, rfl, rfl, h5⟩ ?_
        · simp only [step, Array.getElem?_eq_getElem hl]
          cases gens[g] <;> rfl
        · rw [← es]
          cases x0 <;> exact .same _ _ _ _
    | resume g r l k =>
      rw [sfT_resume] at hs
      simp only [step] at hs
      cases e0 : gens0[g]? with
      | none => rw [e0] at hs; cases hs
      | some x0 =>
        rw [e0] at hs
        have hl : g < gens.size := by
          rw [← h5.size]
          exact (Array.getElem?_eq_some_iff.mp e0).1
        have ex : gens[g]? = some gens[g] := Array.getElem?_eq_getElem hl
        obtain ⟨x0', e1, rr⟩ := h5.at_ g _ ex
        rw [e0] at e1
        have := Option.some.inj e1
        subst this
        generalize gens[g] = x at ex rr
        cases x with
        | fresh c =>
          have rr : x0 = .fresh c := rr
          subst rr
          cases r with
          | throw y =>
            obtain ⟨rfl, rfl⟩ := go_inj hs
            exact fin (t := ⟨.resume g (.throw y) l k, code, pos, st⟩) (s' := ⟨heap0, gens.setIfInBounds g .finished, drawn0, toks0, os0⟩) (t' := ⟨k (.raised y), code, pos, st⟩) rfl (by simp only [step, ex]) ⟨rfl, rfl, rfl, rfl, h5.set rfl⟩ (.same _ _ _ _)
          | send v =>
            cases v with
            | none =>
              obtain ⟨rfl, rfl⟩ := go_inj hs
              exact fin (t := ⟨.resume g (.send .none) l k, code, pos, st⟩) (s' := ⟨heap0, gens.setIfInBounds g .running, drawn0, toks0, os0⟩) (t' := ⟨den c, c, pos, .gen g k l code pos :: st⟩) rfl (by simp only [step, ex]) ⟨rfl, rfl, rfl, rfl, h5.set rfl⟩ (.same (den c) c pos (.gen g k l code pos :: st))
            | _ =>
              obtain ⟨rfl, rfl⟩ := go_inj hs
              exact fin (t := ⟨.resume g (.send _) l k, code, pos, st⟩) (s' := ⟨heap0, gens, drawn0, toks0, os0⟩) (t' := ⟨k .justStarted, code, pos, st⟩) rfl (by simp only [step, ex]) ⟨rfl, rfl, rfl, rfl, h5⟩ (.same _ _ _ _)
        | suspended kk ll c p fs cl =>
          obtain ⟨l0, rfl, _⟩ := rr
          obtain ⟨rfl, rfl⟩ := go_inj hs
          refine fin (t := ⟨.resume g r l k, code, pos, st⟩) (s' := ⟨heap0, gens.setIfInBounds g .running, drawn0, toks0, os0⟩) (t' := ⟨kk r, c, p, fs ++ .gen g k l code pos :: st⟩) rfl (by simp only [step, ex]) ⟨rfl, rfl, rfl, rfl, h5.set rfl⟩ ?_
          have e2 : fs.map sfF ++ Frame.gen g (fun x => sfT code (k x)) l code pos :: st.map sfF = (fs ++ .gen g k l code pos :: st).map sfF := by
            rw [List.map_append, List.map_cons]; rfl
          rw [e2]
          exact .same _ _ _ _
        | running =>
          have rr : x0 = .running := rr
          subst rr
          obtain ⟨rfl, rfl⟩ := go_inj hs
          exact fin (t := ⟨.resume g r l k, code, pos, st⟩) (s' := ⟨heap0, gens, drawn0, toks0, os0⟩) (t' := ⟨k .running, code, pos, st⟩) rfl (by simp only [step, ex]) ⟨rfl, rfl, rfl, rfl, h5⟩ (.same _ _ _ _)
        | finished =>
          have rr : x0 = .finished := rr
          subst rr
          obtain ⟨rfl, rfl⟩ := go_inj hs
          exact fin (t := ⟨.resume g r l k, code, pos, st⟩) (s' := ⟨heap0, gens, drawn0, toks0, os0⟩) (t' := ⟨k .finished, code, pos, st⟩) rfl (by simp only [step, ex]) ⟨rfl, rfl, rfl, rfl, h5⟩ (.same _ _ _ _)
    | stack k =>
      rw [sfT_stack] at hs
      simp only [step] at hs
      obtain ⟨rfl, rfl⟩ := go_inj hs
      refine fin (t := ⟨.stack k, code, pos, st⟩) rfl rfl ⟨rfl, rfl, rfl, rfl, h5⟩ ?_
      rw [map_where]
      exact .same _ _ _ _
    | fork c k => rw [sfT_fork] at hs; cases hs
    | thread k =>
      rw [sfT_thread] at hs
      simp only [step] at hs
      obtain ⟨rfl, rfl⟩ := go_inj hs
      exact fin (t := ⟨.thread k, code, pos, st⟩) rfl rfl ⟨rfl, rfl, rfl, rfl, h5⟩ (.same _ _ _ _)
    | «await» a t d l k => rw [sfT_await] at hs; cases hs
end
end K0
end

section
set_option Elab.async false
set_option linter.all false
set_option maxRecDepth 100000
namespace K0
open PySem PyProof.Rows PySem.W

section
variable {den : Code → Sem PySem.Fin} {P : Program} {w : World}
theorem step_halt_sim {s0 s s0' : Shared} {t0 t : Thread} {o : Outcome} (h : SS s0 s) (ht : TR s.heap t0 t) (hz : s.asleep) (hc : t0.calm = true) (hu : Um [] s0'.gens)
    (hs : step (den0 den) P w s0 t0 = .halt o s0') (ho : o.ends = true) :
    s0' = s0 ∧ ∃ s', sstep den P w (.single s t) = .halt o s' ∧ SS s0' s' := by
  have e0 : s0' = s0 := step_halt_same _ _ _ _ _ _ _ hs
  refine ⟨e0, s, ?_, e0 ▸ h⟩
  subst e0
  have hl : leftWithCleanup s.gens = false := no_clean h.gens hu
  have fin : t.calm = true → step den P w s t = .halt o s → sstep den P w (.single s t) = .halt o s := fun c e => by
    rcases sstep_single den P w s t c hz with q | q
    · rw [q, e]; rfl
    · rw [e] at q; cases q; cases ho
  cases ht with
  | half v g l k a code pos st hy =>
    obtain ⟨heap0, gens0, drawn0, toks0, os0⟩ := s0'
    simp only [step] at hs
    split at hs <;> cases hs
    cases ho
  | same cur code pos st =>
    obtain ⟨heap0, gens0, drawn0, toks0, os0⟩ := s0'
    obtain ⟨heap, gens, drawn, toks, os⟩ := s
    cases cur with
    | pure fin' =>
      rw [sfT_pure] at hs hc
      cases fin' with
      | again c =>
        obtain ⟨st', _, e2⟩ := step_again code c st
        rw [e2] at hs; cases hs
      | done f =>
        cases st with
        | nil =>
          refine fin (by exact hc) ?_
          simp only [List.map_nil, step, finish] at hs ⊢
          split at hs
          · cases hs; cases ho
          · rw [hl]; cases hs; rfl
        | cons F rest => cases F <;> cases hs
    | raise e =>
      rw [sfT_raise] at hs hc
      cases st with
      | nil =>
        refine fin (by exact hc) ?_
        simp only [List.map_nil, step, finish] at hs ⊢
        split at hs
        · cases hs; cases ho
        · rw [hl]; cases hs; rfl
      | cons F rest => cases F <;> cases hs
    | unsupported x => rw [sfT_unsupported] at hs; cases hs; cases ho
    | finish e =>
      rw [sfT_finish] at hs hc
      refine fin (by exact hc) ?_
      simp only [step] at hs ⊢
      split at hs
      · cases hs; cases ho
      · simp only [hl]; cases hs; rfl
    | rule tag k => rw [sfT_rule] at hs; cases hs
    | «at» p k => rw [sfT_at] at hs; cases hs
    | load a p k => rw [sfT_load] at hs; simp only [step] at hs; split at hs <;> cases hs; cases ho
    | update a p f k => rw [sfT_update] at hs; simp only [step] at hs; split at hs <;> cases hs; cases ho
    | alloc o k => rw [sfT_alloc] at hs; cases hs
    | loadIfAlive a k => rw [sfT_loadIfAlive] at hs; cases hs
    | point l k => rw [sfT_point] at hs; cases hs
    | register a k => rw [sfT_register] at hs; cases hs; cases ho
    | fresh k => rw [sfT_fresh] at hs; cases hs
    | ask k => rw [sfT_ask] at hs; cases hs
    | choose src n k => rw [sfT_choose] at hs; simp only [step] at hs; split at hs <;> cases hs; cases ho
    | os q l k => rw [sfT_os] at hs; cases hs
    | call c hh g l k => rw [sfT_call] at hs; cases hs
    | handled own k => rw [sfT_handled] at hs; cases hs
    | newGen c k => rw [sfT_newGen] at hs; cases hs
    | genState g k => rw [sfT_genState] at hs; simp only [step] at hs; split at hs <;> cases hs; cases ho
    | resume g r l k =>
      rw [sfT_resume] at hs; simp only [step] at hs
      repeat' split at hs
      all_goals (cases hs)
      all_goals (cases ho)
    | yield v g l k =>
      unfold sfT at hs
      cases e : yfA code with
      | none => rw [e] at hs; simp only [step] at hs; split at hs <;> cases hs; cases ho
      | some a => rw [e] at hs; simp only [soft, step] at hs; cases hs
    | stack k => rw [sfT_stack] at hs; cases hs
    | fork c k => rw [sfT_fork] at hs; cases hs; cases ho
    | thread k => rw [sfT_thread] at hs; cases hs
    | «await» a t d l k => rw [sfT_await] at hs; cases hs; cases ho

theorem sim_run : ∀ {n : Nat} {s0 s s0' : Shared} {t0 t : Thread} {o : Outcome}, runN (den0 den) P w n s0 t0 = .halted o s0' → o.ends = true → (∀ k s₁ t₁, runN (den0 den) P w k s0 t0 = .running s₁ t₁ → t₁.calm = true) →
    Um [] s0'.gens → SS s0 s → TR s.heap t0 t → s.asleep → ∃ m s', schedN den P w m (.single s t) = .halted o s' ∧ SS s0' s'
  | 0, _, _, _, _, _, _, h, _, _, _, _, _, _ => by cases h
  | n + 1, s0, s, s0', t0, t, o, h, ho, hc, hu, hS, hT, hz => by
    simp only [runN] at h
    have c0 : t0.calm = true := hc 0 s0 t0 rfl
    cases hs : step (den0 den) P w s0 t0 with
    | go s2 t2 =>
      rw [hs] at h
      have hc' : ∀ k s₁ t₁, runN (den0 den) P w k s2 t2 = .running s₁ t₁ → t₁.calm = true := fun k s₁ t₁ q => hc (k + 1) s₁ t₁ (by simp only [runN, hs]; exact q)
      rcases step_sim hS hT hz c0 hs with ⟨a, b⟩ | ⟨s', t', e, a, b, z⟩
      · exact sim_run h ho hc' hu a b hz
      · obtain ⟨m, s'', q, r⟩ := sim_run h ho hc' hu a b z
        exact ⟨m + 1, s'', by simp only [schedN, e]; exact q, r⟩
    | halt o2 s2 =>
      rw [hs] at h
      cases h
      obtain ⟨_, s', e, r⟩ := step_halt_sim hS hT hz c0 hu hs ho
      exact ⟨1, s', by simp only [schedN, e], r⟩
end
theorem um_forget {s s' : Shared} (h : s.forget = s'.forget) (u : Um [] s'.gens) : Um [] s.gens := fun i k l c p fs cl e hB hy => by
  have e1 : (s.forget.gens)[i]? = (s'.forget.gens)[i]? := by rw [h]
  have e2 : (s.gens.map GenState.forget)[i]? = (s'.gens.map GenState.forget)[i]? := e1
  rw [Array.getElem?_map, Array.getElem?_map, e] at e2
  cases q : s'.gens[i]? with
  | none => rw [q] at e2; cases e2
  | some x =>
    rw [q] at e2
    have e3 := Option.some.inj e2
    cases x with
    | suspended k' l' c' p' fs' cl' =>
      simp only [GenState.forget, GenState.suspended.injEq] at e3
      obtain ⟨_, el, ec, _⟩ := e3
      subst el ec
      exact u i _ _ _ _ _ _ q hB hy
    | _ => cases e3
theorem thread_ends_up {prog : Program} {w : World} {t : Sem PySem.Fin} {s : Shared} {R : Result → Shared → Prop} (hreg : s.asleep) (hG : s.gens = #[])
    (h : wpAny (up (model prog w)) callerA t (fun fin s' => ∃ f, fin = .done f ∧ (R (.ok f) s' ∧ Um [] s'.gens ∧ leftWithCleanup s'.gens = false)) (fun e s' => R (.error e) s' ∧ Um [] s'.gens ∧ leftWithCleanup s'.gens = false) s) :
    ∃ n r s' s'', schedN (denote table) prog w n (.single s ⟨t, .builtin "claim.caller" {}, default, []⟩) = .halted (outcomeOf r) s' ∧ s'.heap = s''.heap ∧ s'.os = s''.os ∧ s'.heap.life = s.heap.life ∧ R r s'' := by
  have h' := wp_of_wpAny_done (R := fun r s' => (R r s' ∧ Um [] s'.gens) ∧ leftWithCleanup s'.gens = false) caller_in
    (wpAny_mono h (fun _ _ ⟨f, e, a, b, c⟩ => ⟨f, e, ⟨a, b⟩, c⟩) fun _ _ ⟨a, b, c⟩ => ⟨⟨a, b⟩, c⟩) default
  obtain ⟨n, r, s₁, hn, hR, hu⟩ := (wp_iff_halts (M := up (model prog w)) (R := fun r s' => R r s' ∧ Um [] s'.gens) ..).mp h'
  obtain ⟨s₂, hr, hf, hc⟩ := runNI_real _ _ _ hn (outcomeOf_ends r)
  obtain ⟨eh, _, _, eo, _⟩ := Shared.forget_eq hf
  have hlife : s₂.heap.life = s.heap.life := runN_life _ _ _ hr
  obtain ⟨m, s', e, q⟩ := sim_run (den := denote table) hr (outcomeOf_ends r) hc (um_forget hf hu) ⟨rfl, rfl, rfl, rfl, ⟨rfl, fun i x e => by rw [hG] at e; simp at e⟩⟩ (.same t (.builtin "claim.caller" {}) default []) hreg
  exact ⟨m, r, s', s₁, e, by rw [← q.heap, eh], by rw [← q.os, eo], by rw [← q.heap, hlife], hR⟩
end K0
end

section
set_option Elab.async false
set_option linter.all false
set_option maxRecDepth 100000
/-! the end of the way: a law walked over the softened model -/
namespace K0
open PySem PySem.Calls PyProof.Rows PySem.W

theorem callFrom_up {c : ClaimW} {tree : List Value → Sem PySem.Fin} {w : World} {s : Shared} {free : Addr → Prop} {gens : Prop} {kept : Heap → Prop} (hz : s.asleep) (hgens : s.gens = #[])
    (hspec : ∀ args, c.pre args = true → WData.layableAll args = true → ∀ ord : List DictEntry → List DictEntry, (∀ l, (ord l).Perm l) →
      ∃ vs s₁, layAllW c.records (classAt s.heap) w.params ord args s = some (vs, s₁) ∧
        wpAny (up (model c.prog w)) callerA (tree vs) (fun fin s' => ∃ f, fin = .done f ∧ ((c.Ends s args vs s₁ (.ok f) s' ∧ s'.os = s.os ∧ kept s'.heap) ∧ Um [] s'.gens ∧ AllBare s'.gens))
          (fun e s' => (c.Ends s args vs s₁ (.error e) s' ∧ s'.os = s.os ∧ kept s'.heap) ∧ Um [] s'.gens ∧ AllBare s'.gens) s₁) :
    c.CallFrom (fun vs => ⟨tree vs, .builtin "claim.caller" {}, default, []⟩) w free gens kept s := by
  intro args hpre hlay ord hord
  obtain ⟨vs, s₁, hlaid, hcode⟩ := hspec args hpre hlay ord hord
  have hal := layAllW_rest _ _ _ hlaid
  obtain ⟨k, r, s', s'', hsched, eh, eo, hlife, hcase, hos, hkp⟩ := thread_ends_up (prog := c.prog) (w := w) (t := tree vs) (s := s₁)
    (R := fun r s' => c.Ends s args vs s₁ r s' ∧ s'.os = s.os ∧ kept s'.heap) (Shared.asleep_of_life hal.2.2.2 hz) (hal.1.trans hgens)
    (wpAny_mono hcode (fun _ _ ⟨f, e, h, u, b⟩ => ⟨f, e, h, u, leftWithCleanup_false_of_bare b⟩) fun _ _ ⟨h, u, b⟩ => ⟨h, u, leftWithCleanup_false_of_bare b⟩)
  have hc := hcase.congr eh
  refine ⟨vs, s₁, hlaid, k, _, s', hsched, ?_, (fun _ i x hx => by rw [hgens] at hx; simp at hx), eh ▸ hkp, by rw [hlife.trans hal.2.2.2], Shared.rest_eq (eo.trans hos)⟩
  rcases hc with ⟨v, rfl, d1, d2, d3, d4, d5⟩ | ⟨e, ob, cls, rfl, d1, d2, d3, d4, d5⟩
  · exact .inl ⟨v, rfl, d1, d2, d3, fun b o y _ => d4 b o y, d5⟩
  · exact .inr ⟨e, ob, cls, rfl, d1, d2, d3, d4, fun b o y _ => d5 b o y⟩

/-- what a law's walk over the softened model shows -/
abbrev WalkU (q : Program) (loose : List Str) (XP : (Str → Option Value) → Heap → Prop) (YP : World → Heap → Prop) (r : RowW) (d : DefRec) (kwd : List (Str × Expr)) : Prop :=
  ∀ (w : World) (s₀ s₁ : Shared) (mg mb : Str → Option Value), Ground q loose r.records XP w s₀ mg mb s₁.heap → YP w s₁.heap → ∀ (a : Addr) (o : Obj) (pm cd doc dV kV : Value), s₁.heap.get? a = some o →
    o.data = .func { docDef d.name d.params d.body d.scope pm cd doc with defaults := dV, kwdefaults := kV } → s₁.heap.CodeRec cd d.name → Dflts mg s₁.heap d.params kwd dV kV → mg d.name = some (.ref a) → s₁.gens = #[] →
    ∀ (args : List WData) (vals : List Value) (as : List Addr), r.claim.pre args = true → WData.layableAll args = true → ReadsAllW r.records (classAt s₀.heap) s₁.heap vals args as → WellAll w.params s₁.heap vals args → (∀ a ∈ as, (a == sysModules) = false) →
      wpAny (up (model r.prog w)) callerA (PySem.call (.ref a) vals) (fun v s' => GoodWG r.claim (classAt s₀.heap) (ExcName.means s₀.heap) args s₁ (.ok (.ret v)) s' ∧ Um [] s'.gens)
        (fun e s' => GoodWG r.claim (classAt s₀.heap) (ExcName.means s₀.heap) args s₁ (.error e) s' ∧ Um [] s'.gens) s₁

theorem holds_up {r : OpenRow} {q : Program} {loose : List Str} {Xt : Shared → Bool} {XP : (Str → Option Value) → Heap → Prop} {α : Type} {Yf : Shared → α} {Ya : World → α} {YP : World → Heap → Prop} {d : DefRec} {kwd : List (Str × Expr)} {N : Nat}
    (left : LeftO r.prog q loose Xt Yf Ya N) (hY : ∀ w s, Yf s = Ya w → YP w s.heap) (hYk : ∀ w h h', YP w h → (∀ b o, h.get? b = some o → h'.get? b = some o) → YP w h')
    (hX : ∀ s, Xt s = true → XP (s.heap.nsMap mainGlobals) s.heap) (hXk : ∀ mg h h', XP mg h → (∀ b o, h.get? b = some o → h'.get? b = some o) → XP mg h')
    (hdef : defOf q r.name = some (d, kwd)) (hp : r.prog.theDef r.name = some (d.params, d.body, d.scope)) (hk : kwWritten? d.params.kwonlyargs d.params.kw_defaults = some kwd) (hRf : ∀ s, Xt s = true → RecFacts r.records s.heap) (hwr : (!r.writes || r.records.isEmpty) = true)
    (k1 : r.wellSaid = true) (ok : (chainsOk q && opensWell r.prog && (frees r.toRowW && r.within.isEmpty)) = true) (hb : r.prog.bare) (hw : r.toRowW.promised)
    (walk : WalkU q loose XP YP r.toRowW d kwd) : r.Holds := by
  obtain ⟨ok, k5⟩ := Bool.and_eq_true_iff.mp ok
  obtain ⟨hch, o1⟩ := Bool.and_eq_true_iff.mp ok
  obtain ⟨k5, k6⟩ := Bool.and_eq_true_iff.mp k5
  obtain ⟨hsame, hu, ha, hap, hm⟩ := frees_parts k5
  have hi := ident_freeW hu ha hap
  have hwi : r.toRowW.claim.within = [] := List.isEmpty_iff.mp k6
  refine ⟨k1, hw, ⟨hb, o1, by show r.makers.map _ = []; rw [hm]; rfl⟩, hw.witness, fun w => ⟨(left.behind hX hch w).1, fun s' hs' => ?_⟩⟩
  obtain ⟨s₀, hf, hg0, s, hT, hz, hgens, hg, G00, y⟩ := (left.behind (XP := fun mg h => XP mg h ∧ RecFacts r.records h) (fun s hs => ⟨hX s hs, hRf s hs⟩) hch w).2 s' hs'
  have G0 : Ground q loose [] XP w s (s.heap.nsMap mainGlobals) (s.heap.nsMap builtinsNs) s.heap := ⟨G00.T, G00.B, G00.D, G00.TE, G00.TD, G00.W, G00.X.1, G00.cls, G00.has, G00.apart, G00.once, G00.K⟩
  have RF := G00.X.2
  have hT' := hT
  refine ⟨s₀, hf, hg0, s, hT, fun n hn => ?_, RF.1, RF.2.1, ?_⟩
  · obtain rfl : n = r.name := by split at hn <;> simp_all
    exact pinned_of_view hg G0 hdef hp hk
  have hgens : s.gens = #[] := Array.eq_empty_of_size_eq_zero (beq_iff_eq.mp hgens)
  have G : Ground q loose r.records XP w s _ _ s.heap := RF.ground G0
  refine callFrom_up (c := r.toRowW.claim) hz hgens fun args hpre hlay ord hord => ?_
  obtain ⟨⟨vs, s₁⟩, hlaid⟩ := Option.isSome_iff_exists.mp (layAllW_isSome (P := w.params) (ord := ord) G.has args r.args s (pre_splitW hpre).1)
  have keeps := layAllW_keeps _ _ _ hlaid
  have hal := layAllW_rest _ _ _ hlaid
  obtain ⟨as, hrd, hin, hold⟩ := reads_layAllW hord _ _ _ hlaid hlay s₁.heap (fun _ _ e => e)
  have L : Laid r.records w s s₁ args vs as := ⟨⟨ord, hord, hlaid⟩, hrd, hin, hold, keeps, hal.1.trans hgens, hal.2.2.1⟩
  have G₁ := G.keeps hXk keeps
  obtain ⟨a, o, pm, cd, doc, dV, kV, h1, h2, h3, h4, h5⟩ := G₁.fn hdef
  have h := walk w s s₁ _ _ G₁ (hYk _ _ _ (hY w s y) keeps) a o pm cd doc dV kV h2 h3 h4 h5 (defOf_name hdef ▸ h1) L.gens args vs as hpre hlay L.reads L.well (L.low G.low)
  refine ⟨vs, s₁, hlaid, wpAny_bind (wpAny_nsGet G₁.T.g ?_)⟩
  rw [h1]
  refine wpAny_bind (wpAny_mono h (fun v s' g => wpAny_pure ?_) fun e s' g => ?_)
  · have z := g.1.laid (c := r.toRowW.claim) hsame hwi hi L
    exact ⟨_, rfl, ⟨z.1, z.2.1, fun q => ⟨namesKept_of hT' hg _ keeps g.1.2.1.old, noTable hwr q⟩⟩, g.2, z.2.2⟩
  · have z := g.1.laid (c := r.toRowW.claim) hsame hwi hi L
    exact ⟨⟨z.1, z.2.1, fun q => ⟨namesKept_of hT' hg _ keeps g.1.2.1.old, noTable hwr q⟩⟩, g.2, z.2.2⟩
end K0
end

section
set_option Elab.async false
set_option linter.all false
set_option maxRecDepth 100000
set_option maxHeartbeats 1000000
/-! rules of the softened model; a generator's run to its next item -/
namespace K0
open PySem PySem.Spec PyProof.Rows L2 GenW
open Sem (wp)

/-! ### codes of the softened model -/
theorem up_den {M : Model} {c : Code} (h : yfA c = none) : (up M).den c = M.den c := sfT_none h _
section
variable {P : Program} {w : World} {A : Around} {s : Shared} {R : Result → Shared → Prop}
abbrev M0 (P : Program) (w : World) : Model := up (model P w)
theorem u_call_builtin {id : String} {args : Args} {b : Builtin} (hid : (id == "proto.yield_from") = false) (hq : plainId id = true) (hb : entryFor table id = some b)
    (h : wpAny (M0 P w) A.in1 (checkBuiltinCall id args) (fun _ s₁ => wpAny (M0 P w) A.in1 (b args)
      (fun fin s' => match fin with | .done f => R (.ok f) s' | .again c' => c'.quiet = true ∧ codeAny (M0 P w) A c' R s') (fun e s' => R (.error e) s') s₁)
      (fun e s' => R (.error e) s') s) : codeAny (M0 P w) A (.call (.builtin id) args) R s := by
  refine codeAny_of_tree ?_
  show wpAny _ A.in1 (do checkBuiltinCall id args; again (.builtin id args)) _ _ s
  refine wpAny_bind (wpAny_mono h (fun _ s₁ h₁ => wpAny_pure (And.intro (plainId_quiet hq args) (codeAny_of_tree ?_))) fun _ _ h' => h')
  have hy : yfA (.builtin id args) = none := by
    obtain ⟨pos, kw⟩ := args
    cases pos with
    | nil => rfl
    | cons x r =>
      cases x with
      | ref a =>
        show (if id = "proto.yield_from" then some a else none) = none
        exact if_neg (by simpa using hid)
      | _ => rfl
  rw [up_den hy, Around.under_plainId hq args]
  show wpAny _ _ (match entryFor table id with | some b => b args | none => unsupported ((withoutEnding? id "#data").getD id)) _ _ s₁
  rw [hb]; exact h₁
theorem u_call_entry {E : Value → Shared → Prop} {T : String} {name : Str} {id : String} {b : Builtin} {self : Value} {rest : List Value} {Q : Value → Shared → Prop} (hid : (id == "proto.yield_from") = false) (h : Slot T name id) (hT : s.TypeIs self T)
    (hb : entryFor table id = some b) (hc : wpAny (M0 P w) A.in1 (b ⟨self :: rest, []⟩) (fun fin s' => ∃ v, fin = .done (.ret v) ∧ Q v s') E s) (ha : argsOk id ⟨self :: rest, []⟩ := by rfl) :
    wpAny (M0 P w) A (call (.builtin id) (self :: rest)) Q E s := by
  refine wpAny_call (u_call_builtin hid h.plain hb (h.check _ _ _ _ _ _ _ _ hT ha (wpAny_mono hc (fun fin s' h' => ?_) fun _ _ h' => h')))
  obtain ⟨v, rfl, hv⟩ := h'; exact hv
theorem u_func {body env}
    (h : wpAny (M0 P w) (A.deeper env) (execs body env) (fun f s' => R (.ok (.ret (match f with | .ret v => v | _ => .none))) s')
      (fun e s' => wpAny (M0 P w) (A.deeper env) (leaving env e) (fun _ s'' => R (.error e) s'') (fun e' s'' => R (.error e') s'') s') s) :
    codeAny (M0 P w) A (.func body env) R s := by
  refine codeAny_of_tree ?_
  show wpAny _ (A.deeper env) (do point; match ← (execs body env).onRaise (leaving env) with | .ret v => ret v | _ => ret .none) _ _ s
  refine wpAny_bind (wpAny_point (wpAny_bind (wpAny_onRaise (wpAny_mono h (fun f s' h' => ?_) fun _ _ h' => h'))))
  cases f <;> exact wpAny_pure h'
theorem u_call_function {a : Addr} {args : Args} {o : Obj} {fd : FuncData} {body : List Stmt} (hroom : A.depth < recursionLimit) (ho : s.heap.get? a = some o)
    (hd' : o.data = .func fd) (hco : fd.scope.isCoroutine = false) (hgen : fd.scope.isGenerator = false) (hbody : fd.body = .stmts body) (hcd : s.heap.CodeRec fd.code fd.qualname)
    (h : wpAny (M0 P w) A.in1 (bindArgs fd args) (fun binds s₁ =>
      wpAny (M0 P w) A.in1 (newFunctionEnv fd.scope fd.globals fd.closure binds (fd.qualname ++ ".<locals>.") (some a) fd.code none fd.builtins)
        (fun env s₂ => s₂.heap.NoLimit ∧ codeAny (M0 P w) A (.func body env) R s₂) (fun e s' => R (.error e) s') s₁) (fun e s' => R (.error e) s') s) :
    codeAny (M0 P w) A (.call (.ref a) args) R s := by
  refine codeAny_of_tree ?_
  show wpAny _ A.in1 (callAny (.ref a) args) _ _ s
  simp only [callAny]
  refine wpAny_bind (wpAny_load ho ?_)
  obtain ⟨c, oc, vs, tq, hc, hoc, hdc, hq⟩ := hcd
  simp only [hd', callFunction, hco, hgen, hbody, hc]
  rw [hc] at h
  refine wpAny_bind (m := field (.ref c) 1) (wpAny_field hoc hdc hq (wpAny_bind (wpAny_pure ?_)))
  exact wpAny_bind (wpAny_mono h (fun binds s₁ h₁ => wpAny_bind (wpAny_mono h₁ (fun env s₂ h₂ => wpAny_bind (wpAny_enterFrame h₂.1 hroom
    (wpAny_pure (And.intro rfl h₂.2)))) fun _ _ h' => h')) fun _ _ h' => h')
theorem u_call_generator {a : Addr} {args : Args} {o : Obj} {fd : FuncData} {body : List Stmt} (hroom : A.depth < recursionLimit) (ho : s.heap.get? a = some o) (hd' : o.data = .func fd) (hco : fd.scope.isCoroutine = false)
    (hgen : fd.scope.isGenerator = true) (hbody : fd.body = .stmts body) (hcd : s.heap.CodeRec fd.code fd.qualname)
    (h : wpAny (M0 P w) A.in1 (bindArgs fd args) (fun binds s₁ =>
      wpAny (M0 P w) A.in1 (newFunctionEnv fd.scope fd.globals fd.closure binds (fd.qualname ++ ".<locals>.") (some a) fd.code none fd.builtins)
        (fun env s₂ => s₂.heap.NoLimit ∧ R (.ok (.ret (.ref s₂.heap.objs.size)))
          { s₂ with gens := s₂.gens.push (.fresh (.func body env)), toks := s₂.toks + 1 + 1,
                    heap := s₂.heap.push { cls := .type "generator", data := .fields #[.int s₂.gens.size 0, .str fd.name s₂.toks, .str fd.qualname (s₂.toks + 1)] } })
        (fun e s' => R (.error e) s') s₁) (fun e s' => R (.error e) s') s) :
    codeAny (M0 P w) A (.call (.ref a) args) R s := by
  refine codeAny_of_tree ?_
  show wpAny _ _ (callAny (.ref a) args) _ _ s
  simp only [callAny]
  refine wpAny_bind (wpAny_load ho ?_)
  obtain ⟨c, oc, vs, tq, hc, hoc, hdc, hq⟩ := hcd
  simp only [hd', callFunction, hco, hgen, hbody, hc]
  rw [hc] at h
  refine wpAny_bind (m := field (.ref c) 1) (wpAny_field hoc hdc hq (wpAny_bind (wpAny_pure ?_)))
  refine wpAny_bind (wpAny_mono h (fun binds s₁ h₁ => wpAny_bind (wpAny_mono h₁ (fun env s₂ h₂ => wpAny_bind (wpAny_enterFrame h₂.1 hroom ?_))
    fun _ _ h' => h')) fun _ _ h' => h')
  simp only [newGenerator, newFields]
  exact wpAny_bind (wpAny_bind (wpAny_newGen (wpAny_bind (wpAny_mkText (wpAny_bind (wpAny_mkText (wpAny_newObj_type (wpAny_pure h₂.2) (by size_fits))))))))
theorem u_block {stmts : List Stmt} {env : Env} (h : wpAny (M0 P w) A (execs stmts env) (fun f s' => R (.ok f) s') (notedBy (M0 P w) A env fun e s' => R (.error e) s') s) : codeAny (M0 P w) A (.block stmts env) R s := by
  refine codeAny_of_tree ?_
  show wpAny _ _ (do return Fin.done (← (execs stmts env).onRaise (fun x => do noteFrame x env; theTreesLotGoes x))) _ _ s
  exact wpAny_bind (wpAny_noted (wpAny_mono h (fun f s' h' => wpAny_pure h') fun _ _ h' => h'))
theorem noted_no {M : Model} {A : Around} {env : Env} {R : Value → Shared → Prop} {e : Value} {s : Shared} (h : False) : notedBy M A env R e s := h.elim
theorem u_forLoop {target it body orelse env} (I : Nat → Shared → Prop)
    (turn : ∀ n s, I n s → wpAny (M0 P w) A (pyNext it) (fun r s₁ => match r with
      | none => wpAny (M0 P w) A (execs orelse env) (fun f s₃ => R (.ok f) s₃) (fun _ _ => False) s₁
      | some v => wpAny (M0 P w) A (letOwnedTupleGo target it v) (fun _ s₁' =>
          wpAny (M0 P w) A (assign target env v) (fun _ s₂ => wpAny (M0 P w) A (execs body env) (fun f s₃ => match f with
            | .next | .cont => ∃ m, m < n ∧ I m s₃
            | .brk => R (.ok .next) s₃
            | .ret v => R (.ok (.ret v)) s₃) (fun _ _ => False) s₂) (fun _ _ => False) s₁') (fun _ _ => False) s₁) (fun _ _ => False) s)
    (n : Nat) (h : I n s) : codeAny (M0 P w) A (.forLoop target it body orelse env) R s := by
  refine codeAny_loop' rfl I (fun n s hI => ?_) n h
  show wpAny _ A ((forTurn target it body orelse env).onRaise (fun x => do noteFrame x env; theTreesLotGoes x)) _ _ s
  refine wpAny_onRaise (wpAny_mono (Q := fun fin s' => match fin with
        | .done f => R (.ok f) s'
        | .again c' => (c' = .forLoop target it body orelse env ∧ ∃ m, m < n ∧ I m s') ∨ (c'.quiet = true ∧ codeAny (M0 P w) A c' R s')) (E := fun _ _ => False) ?_ (fun _ _ x => x) fun _ _ x => x.elim)
  simp only [forTurn]
  refine wpAny_bind (wpAny_standAt (wpAny_bind (wpAny_onRaise (wpAny_mono (turn n s hI) (fun r s₁ h₁ => ?_) fun _ _ h' => h'.elim))))
  cases r with
  | none => exact wpAny_pure (.inr ⟨rfl, u_block (wpAny_mono h₁ (fun _ _ x => x) fun _ _ x => x.elim)⟩)
  | some v =>
    refine wpAny_bind (wpAny_mono h₁ (fun _ s₁' h₁' => ?_) fun _ _ h' => h')
    refine wpAny_bind (wpAny_mono h₁' (fun _ s₂ h₂ => wpAny_bind (wpAny_mono h₂ (fun f s₃ h₃ => ?_) fun _ _ h' => h')) fun _ _ h' => h')
    cases f with
    | next => exact wpAny_pure (.inl ⟨rfl, h₃⟩)
    | cont => exact wpAny_pure (.inl ⟨rfl, h₃⟩)
    | brk => exact wpAny_pure h₃
    | ret v => exact wpAny_pure h₃
end

/-! ### a run to the next item, or to the end -/
def EndIs (Qr : Result → Shared → Prop) (Qy : Value → GenState → Shared → Prop) (e : End) (s : Shared) : Prop := match e with
  | .ret r => Qr r s
  | .susp v g l k c p fs => Qy v (End.susp v g l k c p fs).genState s
def Run1 (M : Model) (A : Around) (Qr : Result → Shared → Prop) (Qy : Value → GenState → Shared → Prop) (c : Code) (t : Sem PySem.Fin) (fs : List Frame) (s : Shared) : Prop :=
  ∀ Γ p, Γ.code = c → Γ.Woken A → ∃ e s', Runs M Γ p t fs s e s' ∧ e.quiet = true ∧ EndIs Qr Qy e s'
def Wk (M : Model) (A : Around) (Qr : Result → Shared → Prop) (Qy : Value → GenState → Shared → Prop) (gs : GenState) (s : Shared) : Prop := match gs with
  | .fresh c => Run1 M A Qr Qy c (M.den c) [] s
  | .suspended k _ c _ fs _ => Run1 M A Qr Qy c (k (.send .none)) fs s
  | _ => False
section
variable {M : Model} {A : Around} {Qr : Result → Shared → Prop} {Qy : Value → GenState → Shared → Prop} {c : Code} {fs : List Frame} {s : Shared}
theorem r1_wrap {α : Type} {m : Sem α} {K : α → Sem PySem.Fin} {J : Value → Sem PySem.Fin} {gd lv}
    (h : wpAny M (A.over c fs) m (fun a s' => Run1 M A Qr Qy c (K a) fs s') (fun x s' => Run1 M A Qr Qy c (J x) fs s') s) : Run1 M A Qr Qy c (m.wrap K J gd lv) fs s := by
  rintro Γ p rfl hΓ
  obtain ⟨e, s', hr, he⟩ := runs_wrap_of_wp (Φ := fun e s' => e.quiet = true ∧ EndIs Qr Qy e s') K J gd lv m (h (Γ.over fs) p (hΓ.over fs)) (fun a p' s' h' => h' Γ p' rfl hΓ) (fun x p' s' h' => h' Γ p' rfl hΓ)
  exact ⟨e, s', hr, he⟩
theorem r1_bind {α : Type} {m : Sem α} {K : α → Sem PySem.Fin} (h : wpAny M (A.over c fs) m (fun a s' => Run1 M A Qr Qy c (K a) fs s') (fun x s' => Run1 M A Qr Qy c (.raise x) fs s') s) : Run1 M A Qr Qy c (m >>= K) fs s := by
  rw [Sem.bind_eq_wrap']; exact r1_wrap h
theorem r1_at {p' : Pos} {k : Unit → Sem PySem.Fin} (h : Run1 M A Qr Qy c (k ()) fs s) : Run1 M A Qr Qy c (.at p' k) fs s :=
  r1_wrap (m := standAt p') (K := k) (J := .raise) (gd := id) (lv := id) (wpAny_standAt h)
theorem r1_point {l : List Value} {k : Unit → Sem PySem.Fin} (h : Run1 M A Qr Qy c (k ()) fs s) : Run1 M A Qr Qy c (.point l k) fs s :=
  r1_wrap (m := point) (K := k) (J := .raise) (gd := id) (lv := fun _ => l) (wpAny_point h)
theorem r1_call {c' : Code} {h g l} {k : Result → Sem PySem.Fin} (hc : ∀ p, Run1 M A Qr Qy c' (M.den c') (.ret k h g l c p [] :: fs) s) : Run1 M A Qr Qy c (.call c' h g l k) fs s := by
  rintro Γ p rfl hΓ
  obtain ⟨e, s', hr, he⟩ := hc p (Γ.goto c') p rfl (hΓ.goto c')
  exact ⟨e, s', runs_call_seg hr, he⟩
theorem r1_leaf {k h g l c₁ p₁ kp} (r : Result) (hk : Run1 M A Qr Qy c₁ (k r) fs s) : Run1 M A Qr Qy c (leafOf r) (.ret k h g l c₁ p₁ kp :: fs) s := by
  rintro Γ p rfl hΓ
  obtain ⟨e, s', hr, he⟩ := hk (Γ.goto c₁) p₁ rfl (hΓ.goto c₁)
  exact ⟨e, s', Runs.pop r hr, he⟩
theorem r1_again {c' : Code} (hq : c'.quiet = true) (hc : Run1 M A Qr Qy c' (M.den c') fs s) : Run1 M A Qr Qy c (.pure (.again c')) fs s := by
  rintro Γ p rfl hΓ
  obtain ⟨e, s', hr, he⟩ := hc (Γ.goto c') p rfl (hΓ.goto c')
  exact ⟨e, s', Runs.head (c₁ := c') (fun _ _ x => .again hq x) hr, he⟩
theorem r1_end (r : Result) (h : Qr r s) : Run1 M A Qr Qy c (leafOf r) [] s := by
  rintro Γ p rfl _
  exact ⟨.ret r, s, Runs.leaf r, rfl, h⟩
theorem r1_yield {v g l} {k : Resume → Sem PySem.Fin} (hfs : splitAtGen fs = none) (hg : g = false) (hfg : fs.any Frame.guarded = false)
    (h : ∀ p l', Qy v (.suspended k l' c p fs false) s) : Run1 M A Qr Qy c (.yield v g l k) fs s := by
  rintro Γ p rfl _
  refine ⟨_, s, Runs.yield' fs hfs, by simp [End.quiet, hg, hfg], ?_⟩
  subst hg
  simp only [EndIs, End.genState, hfg, Bool.or_false]
  exact h _ _
theorem u_resume {E : Value → Shared → Prop} {g : Nat} {gs : GenState} {l : List Value} {α : Type} {k : GenResult → Sem α} {Q : α → Shared → Prop} (hg : s.gens[g]? = some gs)
    (h : Wk M A (fun x s₁ => wpAny M A (k (End.ret x).result) Q E (s₁.setGen g .finished)) (fun v gs' s₁ => gs'.bare = true → wpAny M A (k (.yielded v)) Q E (s₁.setGen g gs')) gs (s.setGen g .running)) :
    wpAny M A (.resume g (.send .none) l k) Q E s := by
  intro Γ p hΓ
  rw [Sem.wp_resume]
  have fin : ∀ e₁ s₁, e₁.quiet = true → EndIs (fun x s₁ => wpAny M A (k (End.ret x).result) Q E (s₁.setGen g .finished)) (fun v gs' s₁ => gs'.bare = true → wpAny M A (k (.yielded v)) Q E (s₁.setGen g gs')) e₁ s₁ →
      wp M Γ (k e₁.result) (fun a _ s' => Q a s') (fun e _ s' => E e s') p (s₁.setGen g e₁.genState) := by
    intro e₁ s₁ hq he
    cases e₁ with
    | ret x => exact he Γ p hΓ
    | susp v g₀ l₀ k₀ c₀ p₀ fs₀ => exact he (End.bare_of_quiet hq) Γ p hΓ
  cases gs with
  | fresh c =>
    obtain ⟨e₁, s₁, hr, hq, he⟩ := h (Γ.wake c p) p rfl (hΓ.wake c p)
    exact ⟨_, _, by unfold Wakes; rw [hg]; exact ⟨e₁, s₁, hr, hq, rfl, rfl⟩, fin e₁ s₁ hq he⟩
  | suspended k₀ l₀ c₀ p₀ fs₀ cl =>
    obtain ⟨e₁, s₁, hr, hq, he⟩ := h (Γ.wake c₀ p) p₀ rfl (hΓ.wake c₀ p)
    exact ⟨_, _, by unfold Wakes; rw [hg]; exact ⟨e₁, s₁, hr, hq, rfl, rfl⟩, fin e₁ s₁ hq he⟩
  | running => exact h.elim
  | finished => exact h.elim
end
section
variable {P : Program} {w : World} {A : Around} {E : Value → Shared → Prop} {s : Shared}
/-- what a wake's end is worth to who asked for the next item -/
theorem u_next {a : Addr} {g : Nat} {gs : GenState} {Q : Option Value → Shared → Prop} (hh : A.handled = none) (hl : s.heap.NoLimit) (hroom : A.depth < recursionLimit) (hg : s.heap.IsGen a g) (hgs : s.gens[g]? = some gs)
    (h : Wk (M0 P w) A.in1 (fun r s₁ => (r = .ok (.ret .none)) ∧ ∀ h', (∀ b o, s₁.heap.get? b = some o → h'.get? b = some o) → Q none { s₁.setGen g .finished with heap := h' })
      (fun v gs' s₁ => gs'.bare = true → Q (some v) (s₁.setGen g gs')) gs (s.setGen g .running)) : wpAny (M0 P w) A (pyNext (.ref a)) Q E s := by
  unfold pyNext
  refine wpAny_bind (wpAny_attempt (wpAny_callSpecial?_slot (name := Str.ofString "__next__") hg.typeIs slot_gen_next (u_call_entry (by decide) slot_gen_next hg.typeIs entry_gen_next ?_ (args_gen_next _))))
  show wpAny _ A.in1 (Builtin.Generator.genWake (.ref a) (.send .none)) _ _ s
  unfold Builtin.Generator.genWake
  refine wpAny_bind (wpAny_holding (wpAny_genNumber hg (wpAny_bind (wpAny_genState hgs ?_))))
  have mono : ∀ {Qr Qr' : Result → Shared → Prop} {Qy Qy' : Value → GenState → Shared → Prop} {gs : GenState} {s : Shared}, Wk (M0 P w) A.in1 Qr Qy gs s → (∀ r s, Qr r s → Qr' r s) → (∀ v g s, Qy v g s → Qy' v g s) → Wk (M0 P w) A.in1 Qr' Qy' gs s := by
    intro Qr Qr' Qy Qy' gs s h h1 h2
    have e1 : ∀ e s, EndIs Qr Qy e s → EndIs Qr' Qy' e s := fun e s q => by
      cases e with
      | ret r => exact h1 _ _ q
      | susp v g l k c p fs => exact h2 _ _ _ q
    cases gs with
    | fresh c => exact fun Γ p hc hΓ => let ⟨e, s', a, b, d⟩ := h Γ p hc hΓ; ⟨e, s', a, b, e1 e s' d⟩
    | suspended k₀ l₀ c₀ p₀ fs₀ cl => exact fun Γ p hc hΓ => let ⟨e, s', a, b, d⟩ := h Γ p hc hΓ; ⟨e, s', a, b, e1 e s' d⟩
    | running => exact h
    | finished => exact h
  cases gs with
  | running => exact h.elim
  | finished => exact h.elim
  | _ =>
    refine wpAny_bind (wpAny_roomToWake hl hroom ?_)
    show wpAny _ A.in1 (.resume g (.send .none) [] _) _ _ s
    refine u_resume hgs (mono h (fun x s₁ hx => ?_) fun v gs' s₁ hv hb => ?_)
    · obtain ⟨rfl, hp⟩ := hx
      show wpAny _ A.in1 (newExc (.type "StopIteration") [] >>= _) _ _ _
      refine wpAny_bind ?_
      simp only [newExc, newTuple]
      refine wpAny_bind (wpAny_newObj_type ?_ (by size_fits))
      refine wpAny_bind (m := firstArgMember _ _) (wpAny_of_eq (a := Value.none) (by first | rfl | (simp only [firstArgMember]; rfl)) ?_)
      refine wpAny_newObj_type ?_ (by size_fits)
      simp only [raiseNew]
      refine wpAny_bind (wpAny_bind (wpAny_handled ?_))
      first | rw [show A.in1.handled = none from hh] | rw [hh]
      refine wpAny_throw ?_
      refine wpAny_bind (wpAny_isInstance (T := "StopIteration") (b := true) ⟨_, Heap.get?_push_size _ rfl, rfl⟩ isSubtype_stop ?_)
      exact wpAny_pure (hp _ fun b o hb => Heap.get?_push_of_some _ (Heap.get?_push_of_some _ hb))
    · exact wpAny_pure ⟨v, rfl, wpAny_pure (hv hb)⟩
end
end K0
end

section
set_option Elab.async false
set_option linter.all false
set_option maxRecDepth 100000
set_option maxHeartbeats 1000000
namespace K0
open PySem PySem.Spec PyProof.Rows L2 GenW
open Sem (wp)

/-! ### soft -/
theorem soft_bind {α β : Type} (a : Addr) (m : Sem α) (f : α → Sem β) : soft a (m >>= f) = soft a m >>= fun x => soft a (f x) := by
  show soft a (m.bind f) = (soft a m).bind fun x => soft a (f x)
  induction m with
  | await b t d l k ih =>
    show Sem.await b t d l (fun x => soft a ((k x).bind f)) = Sem.await b t d l fun x => (soft a (k x)).bind fun x => soft a (f x)
    congr 1
    funext x
    exact ih x
  | _ => simp_all [Sem.bind, soft]
theorem wp_soft {α : Type} {M : Model} {Γ : PySem.Ctx} (a : Addr) (t : Sem α) : ∀ (Q : α → Pos → Shared → Prop) (E : Value → Pos → Shared → Prop) (p : Pos) (s : Shared), wp M Γ t Q E p s → wp M Γ (soft a t) Q E p s := by
  induction t with
  | pure a => intro Q E p s h; exact h
  | raise e => intro Q E p s h; exact h
  | unsupported _ => intro Q E p s h; exact h
  | finish _ => intro Q E p s h; exact h
  | rule _ k ih => intro Q E p s h; exact ih () Q E p s h
  | «at» p' k ih => intro Q E p s h; exact ih () Q E p' s h
  | load a _ k ih => intro Q E p s h; obtain ⟨o, ho, h⟩ := h; exact ⟨o, ho, ih o Q E p s h⟩
  | update a _ f k ih => intro Q E p s h; exact ⟨h.1, ih () Q E p _ h.2⟩
  | loadIfAlive a k ih => intro Q E p s h; exact ih _ Q E p s h
  | point _ k ih => intro Q E p s h; exact ih () Q E p s h
  | register _ _ => intro Q E p s h; exact h
  | alloc o k ih => intro Q E p s h; exact ih _ Q E p _ h
  | fresh k ih => intro Q E p s h; exact ih _ Q E p _ h
  | ask k ih => intro Q E p s h; exact ih _ Q E p s h
  | choose src m k ih => intro Q E p s h; exact ⟨h.1, ih _ Q E p _ h.2⟩
  | os q _ k ih => intro Q E p s h; exact ih _ Q E p _ h
  | call c hd _ _ k ih => intro Q E p s h; obtain ⟨r, s', hr, h⟩ := h; exact ⟨r, s', hr, ih r Q E p s' h⟩
  | handled own k ih => intro Q E p s h; exact ih _ Q E p s h
  | genState g k ih => intro Q E p s h; obtain ⟨st, hs, h⟩ := h; exact ⟨st, hs, ih _ Q E p s h⟩
  | newGen c k ih => intro Q E p s h; exact ih _ Q E p _ h
  | resume g r _ k ih => intro Q E p s h; obtain ⟨res, s', hw, h⟩ := h; exact ⟨res, s', hw, ih res Q E p s' h⟩
  | yield _ _ _ _ => intro Q E p s h; exact h.elim
  | stack k ih => intro Q E p s h; exact ih _ Q E p s h
  | fork _ _ => intro Q E p s h; exact h
  | thread k ih => intro Q E p s h; exact ih _ Q E p s h
  | await _ _ _ _ _ => intro Q E p s h; exact h
theorem wpAny_soft {α : Type} {M : Model} {A : Around} {t : Sem α} {Q : α → Shared → Prop} {E : Value → Shared → Prop} {s : Shared} {a : Addr} (h : wpAny M A t Q E s) : wpAny M A (soft a t) Q E s :=
  fun Γ p hΓ => wp_soft a t _ _ p s (h Γ p hΓ)

/-! ### binds under a wrap -/
section
variable {M : Model} {A : Around} {Qr : Result → Shared → Prop} {Qy : Value → GenState → Shared → Prop} {c : Code} {fs : List Frame} {s : Shared}
theorem r1_bw {α β : Type} {m : Sem α} {f : α → Sem β} {K : β → Sem PySem.Fin} {J : Value → Sem PySem.Fin} {gd : Bool → Bool} {lv : List Value → List Value}
    (h : wpAny M (A.over c fs) m (fun a s' => Run1 M A Qr Qy c ((f a).wrap K J gd lv) fs s') (fun x s' => Run1 M A Qr Qy c (J x) fs s') s) : Run1 M A Qr Qy c ((m >>= f).wrap K J gd lv) fs s := by
  rw [Sem.bind_eq_wrap', Sem.wrap_wrap]; exact r1_wrap h
theorem r1_sbind {α : Type} {a : Addr} {m : Sem α} {K : α → Sem PySem.Fin} (h : wpAny M (A.over c fs) m (fun x s' => Run1 M A Qr Qy c (soft a (K x)) fs s') (fun x s' => Run1 M A Qr Qy c (.raise x) fs s') s) :
    Run1 M A Qr Qy c (soft a (m >>= K)) fs s := by
  rw [soft_bind]; exact r1_bind (wpAny_soft h)
theorem r1_execs_nil {env : Env} {K : Flow → Sem PySem.Fin} {J : Value → Sem PySem.Fin} {gd lv} (h : Run1 M A Qr Qy c (K .next) fs s) : Run1 M A Qr Qy c ((execs [] env).wrap K J gd lv) fs s := h
theorem r1_execs_cons {env : Env} {K : Flow → Sem PySem.Fin} {J : Value → Sem PySem.Fin} {gd lv} {st : Stmt} {rest : List Stmt}
    (h : Run1 M A Qr Qy c ((exec st env).wrap (fun f => match f with | .next => (execs rest env).wrap K J gd lv | f => K f) J gd lv) fs s) :
    Run1 M A Qr Qy c ((execs (st :: rest) env).wrap K J gd lv) fs s := by rw [execs_cons_wrap]; exact h
theorem r1_For {env : Env} {K : Flow → Sem PySem.Fin} {J : Value → Sem PySem.Fin} {gd lv} {tg iter : Expr} {body orelse : List Stmt} {pos : Pos}
    (h : wpAny M (A.over c fs) (eval iter env) (fun v s1 => wpAny M (A.over c fs) (pyIter v) (fun it s2 => ∀ p l, Run1 M A Qr Qy (.forLoop tg it body orelse env) (M.den (.forLoop tg it body orelse env))
      (.ret (fun r => ((match r with | .ok f => (.pure f : Sem Flow) | .error e => .raise e).onRaise fun (x : Value) => do
        if (← field x 1) == Value.none then unsupported "frame.own-activation:exception-without-traceback"
        setFlight x env.frame).wrap K J gd lv) none (gd false) l c p [] :: fs) s2) (fun _ _ => False) s1) (fun _ _ => False) s)
    (hs : ∀ x, foldedSetIterable iter env x = pure x := by intro _; rfl) : Run1 M A Qr Qy c ((exec (.For tg iter body orelse pos) env).wrap K J gd lv) fs s := by
  rw [exec_For]
  refine r1_bw (wpAny_standAt (r1_bw (wpAny_mono h (fun v s1 h1 => ?_) fun _ _ x => x.elim)))
  refine r1_bw (wpAny_of_eq (hs v) (r1_bw (wpAny_standAt (r1_bw (wpAny_holding (wpAny_mono h1 (fun it s2 h2 => ?_) fun _ _ x => x.elim))))))
  exact r1_call fun p => h2 p _
end
section
variable {P : Program} {w : World} {A : Around} {Qr : Result → Shared → Prop} {Qy : Value → GenState → Shared → Prop} {c : Code} {fs : List Frame} {s : Shared}
theorem r1_forLoop {env : Env} {tg : Expr} {it : Value} {body : List Stmt}
    (h : wpAny (M0 P w) (A.over (.forLoop tg it body [] env) fs) (pyNext it) (fun r s1 => match r with
      | none => Run1 (M0 P w) A Qr Qy (.block [] env) (leafOf (.ok .next)) fs s1
      | some v => wpAny (M0 P w) (A.over (.forLoop tg it body [] env) fs) (letOwnedTupleGo tg it v) (fun _ s2 => wpAny (M0 P w) (A.over (.forLoop tg it body [] env) fs) (assign tg env v) (fun _ s3 =>
          ∀ J, Run1 (M0 P w) A Qr Qy (.forLoop tg it body [] env) ((execs body env).wrap (fun f => match f with
            | .next | .cont => .pure (.again (.forLoop tg it body [] env))
            | .brk => .pure (.done .next)
            | .ret v => .pure (.done (.ret v))) J id id) fs s3) (fun _ _ => False) s2) (fun _ _ => False) s1) (fun _ _ => False) s) :
    Run1 (M0 P w) A Qr Qy (.forLoop tg it body [] env) ((M0 P w).den (.forLoop tg it body [] env)) fs s := by
  rw [up_den rfl]
  show Run1 _ A Qr Qy _ ((forTurn tg it body [] env).onRaise (fun x => do noteFrame x env; theTreesLotGoes x)) fs s
  rw [Sem.onRaise_eq_wrap]
  unfold forTurn
  refine r1_bw (wpAny_standAt (r1_bw (wpAny_onRaise (wpAny_mono h (fun r s1 h1 => ?_) fun _ _ x => x.elim))))
  cases r with
  | none =>
    refine r1_again rfl ?_
    rw [up_den rfl]
    exact h1
  | some v =>
    refine r1_bw (wpAny_mono h1 (fun _ s2 h2 => r1_bw (wpAny_mono h2 (fun _ s3 h3 => ?_) fun _ _ x => x.elim)) fun _ _ x => x.elim)
    rw [Sem.bind_eq_wrap', Sem.wrap_wrap]
    rw [Sem.wrap_congr (execs body env) _ _ (K' := fun f => match f with
            | .next | .cont => .pure (.again (.forLoop tg it body [] env))
            | .brk => .pure (.done .next)
            | .ret v => .pure (.done (.ret v))) (H' := fun e => _)
        (fun f => by cases f <;> rfl) (fun _ => rfl)]
    exact h3 _
end

/-! ### a generator's object -/
def IsG (h : Heap) (a : Addr) (g : Nat) : Prop :=
  ∃ o nm qn, h.get? a = some o ∧ o.cls = .type "generator" ∧ o.data = .fields #[.int g 0, nm, qn] ∧ (o.slots = #[] ∨ o.slots = #[some (.int 0 0)])
theorem IsG.of {h : Heap} {a : Addr} {g : Nat} (x : h.IsGen a g) : IsG h a g := let ⟨o, nm, qn, ho, hc, hd, hs⟩ := x; ⟨o, nm, qn, ho, hc, hd, .inl hs⟩
theorem IsG.typeIs {s : Shared} {a g} (x : IsG s.heap a g) : s.TypeIs (.ref a) "generator" := let ⟨o, _, _, ho, hc, _⟩ := x; ⟨o, ho, hc⟩
theorem u_genNumber {M : Model} {A : Around} {E : Value → Shared → Prop} {s : Shared} {a : Addr} {g : Nat} {Q : Nat → Shared → Prop} (hg : IsG s.heap a g) (h : Q g s) : wpAny M A (Builtin.Generator.genNumber (.ref a)) Q E s := by
  obtain ⟨o, nm, qn, ho, _, hd, hsl⟩ := hg
  unfold Builtin.Generator.genNumber
  refine wpAny_bind (wpAny_load ho ?_)
  rcases hsl with hsl | hsl
  · rw [hsl, hd]
    show wpAny M A (pure ((g : Int).toNat)) Q E s
    rw [Int.toNat_natCast]; exact wpAny_pure h
  · rw [hsl, hd]
    show wpAny M A (pure ((g : Int).toNat)) Q E s
    rw [Int.toNat_natCast]; exact wpAny_pure h
section
variable {P : Program} {w : World} {A : Around} {E : Value → Shared → Prop} {s : Shared}
/-- a wake by __next__: an item, or the exception that ends the turns -/
theorem u_wake {a : Addr} {g : Nat} {gs : GenState} {Q : Option Value → Shared → Prop} (hh : A.handled = none) (hl : s.heap.NoLimit) (hroom : A.depth < recursionLimit) (hg : IsG s.heap a g) (hgs : s.gens[g]? = some gs)
    (h : Wk (M0 P w) A.in1 (fun r s₁ => (r = .ok (.ret .none)) ∧ ∀ e h', (∀ b o, s₁.heap.get? b = some o → h'.get? b = some o) → StopX e h' → E e { s₁.setGen g .finished with heap := h' })
      (fun v gs' s₁ => gs'.bare = true → Q (some v) (s₁.setGen g gs')) gs (s.setGen g .running)) : wpAny (M0 P w) A (callSpecial? (.ref a) "__next__") Q E s := by
  refine wpAny_callSpecial?_slot (name := Str.ofString "__next__") hg.typeIs slot_gen_next (u_call_entry (by decide) slot_gen_next hg.typeIs entry_gen_next ?_ (args_gen_next _))
  show wpAny _ A.in1 (Builtin.Generator.genWake (.ref a) (.send .none)) _ _ s
  unfold Builtin.Generator.genWake
  refine wpAny_bind (wpAny_holding (u_genNumber hg (wpAny_bind (wpAny_genState hgs ?_))))
  have mono : ∀ {Qr Qr' : Result → Shared → Prop} {Qy Qy' : Value → GenState → Shared → Prop} {gs : GenState} {s : Shared}, Wk (M0 P w) A.in1 Qr Qy gs s → (∀ r s, Qr r s → Qr' r s) → (∀ v g s, Qy v g s → Qy' v g s) → Wk (M0 P w) A.in1 Qr' Qy' gs s := by
    intro Qr Qr' Qy Qy' gs s h h1 h2
    have e1 : ∀ e s, EndIs Qr Qy e s → EndIs Qr' Qy' e s := fun e s q => by
      cases e with
      | ret r => exact h1 _ _ q
      | susp v g l k c p fs => exact h2 _ _ _ q
    cases gs with
    | fresh c => exact fun Γ p hc hΓ => let ⟨e, s', a, b, d⟩ := h Γ p hc hΓ; ⟨e, s', a, b, e1 e s' d⟩
    | suspended k₀ l₀ c₀ p₀ fs₀ cl => exact fun Γ p hc hΓ => let ⟨e, s', a, b, d⟩ := h Γ p hc hΓ; ⟨e, s', a, b, e1 e s' d⟩
    | running => exact h
    | finished => exact h
  cases gs with
  | running => exact h.elim
  | finished => exact h.elim
  | _ =>
    refine wpAny_bind (wpAny_roomToWake hl hroom ?_)
    show wpAny _ A.in1 (.resume g (.send .none) [] _) _ _ s
    refine u_resume hgs (mono h (fun x s₁ hx => ?_) fun v gs' s₁ hv hb => ?_)
    · obtain ⟨rfl, hp⟩ := hx
      show wpAny _ A.in1 (newExc (.type "StopIteration") [] >>= _) _ _ _
      refine wpAny_bind ?_
      simp only [newExc, newTuple]
      refine wpAny_bind (wpAny_newObj_type ?_ (by size_fits))
      refine wpAny_bind (m := firstArgMember _ _) (wpAny_of_eq (a := Value.none) (by first | rfl | (simp only [firstArgMember]; rfl)) ?_)
      refine wpAny_newObj_type ?_ (by size_fits)
      simp only [raiseNew]
      refine wpAny_bind (wpAny_bind (wpAny_handled ?_))
      first | rw [show A.in1.handled = none from hh] | rw [hh]
      refine wpAny_throw ?_
      refine hp _ _ (fun b o hb => Heap.get?_push_of_some _ (Heap.get?_push_of_some _ hb)) ⟨_, _, _, rfl, Heap.get?_push_size _ rfl, rfl, rfl, ?_⟩
      first
        | rfl
        | (rw [Array.getElem?_append_left (by decide)]; rfl)
        | kernel_rfl
    · exact wpAny_pure ⟨v, rfl, hv hb⟩
theorem u_nextG {a : Addr} {g : Nat} {gs : GenState} {Q : Option Value → Shared → Prop} (hh : A.handled = none) (hl : s.heap.NoLimit) (hroom : A.depth < recursionLimit) (hg : IsG s.heap a g) (hgs : s.gens[g]? = some gs)
    (h : Wk (M0 P w) A.in1 (fun r s₁ => (r = .ok (.ret .none)) ∧ ∀ h', (∀ b o, s₁.heap.get? b = some o → h'.get? b = some o) → Q none { s₁.setGen g .finished with heap := h' })
      (fun v gs' s₁ => gs'.bare = true → Q (some v) (s₁.setGen g gs')) gs (s.setGen g .running)) : wpAny (M0 P w) A (pyNext (.ref a)) Q E s := by
  unfold pyNext
  have mono : ∀ {Qr Qr' : Result → Shared → Prop} {Qy Qy' : Value → GenState → Shared → Prop} {gs : GenState} {s : Shared}, Wk (M0 P w) A.in1 Qr Qy gs s → (∀ r s, Qr r s → Qr' r s) → (∀ v g s, Qy v g s → Qy' v g s) → Wk (M0 P w) A.in1 Qr' Qy' gs s := by
    intro Qr Qr' Qy Qy' gs s h h1 h2
    have e1 : ∀ e s, EndIs Qr Qy e s → EndIs Qr' Qy' e s := fun e s q => by
      cases e with
      | ret r => exact h1 _ _ q
      | susp v g l k c p fs => exact h2 _ _ _ q
    cases gs with
    | fresh c => exact fun Γ p hc hΓ => let ⟨e, s', a, b, d⟩ := h Γ p hc hΓ; ⟨e, s', a, b, e1 e s' d⟩
    | suspended k₀ l₀ c₀ p₀ fs₀ cl => exact fun Γ p hc hΓ => let ⟨e, s', a, b, d⟩ := h Γ p hc hΓ; ⟨e, s', a, b, e1 e s' d⟩
    | running => exact h
    | finished => exact h
  refine wpAny_bind (wpAny_attempt (u_wake hh hl hroom hg hgs (mono h (fun r s₁ hx => ⟨hx.1, fun e h' hk hS => ?_⟩) fun v gs' s₁ hv hb => ?_)))
  · obtain ⟨e, o, vs, rfl, ho, hc, hd, _⟩ := hS
    refine wpAny_bind (wpAny_isInstance (T := "StopIteration") (b := true) ⟨o, ho, hc⟩ isSubtype_stop ?_)
    exact wpAny_pure (hx.2 h' hk)
  · exact wpAny_pure (hv hb)
theorem u_iter {a : Addr} {g : Nat} {Q : Value → Shared → Prop} (hg : IsG s.heap a g) (h : Q (.ref a) s) : wpAny (M0 P w) A (pyIter (.ref a)) Q E s := by
  refine wpAny_pyIter_slot hg.typeIs slot_gen_iter (u_call_entry (by decide) slot_gen_iter hg.typeIs entry_gen_iter ?_ (args_gen_iter _))
  show wpAny _ _ (ret (.ref a)) _ _ s
  exact wpAny_pure ⟨_, rfl, "generator", _, hg.typeIs, slot_gen_next.lookup, h⟩
end
end K0
end

section
set_option Elab.async false
set_option linter.all false
set_option maxRecDepth 100000
set_option maxHeartbeats 1000000
/-! sleeping generators over the softened model, by the items that they will hand out -/
namespace K0
open PySem PySem.Spec PyProof.Rows L2 GenW
open Sem (wp)

/-! ### abstract heaps that grow -/
abbrev Ext (H H' : Hp) : Prop := L2.Ext H H'
/-- the lists may have changed -/
def Stay (H H' : Hp) : Prop := ∀ a o, H a = some o → (∀ xs, o ≠ .lst xs) → H' a = some o
theorem Ext.refl {H : Hp} : Ext H H := fun _ _ h => h
theorem Ext.trans {H H1 H2 : Hp} (a : Ext H H1) (b : Ext H1 H2) : Ext H H2 := fun x o h => b x o (a x o h)
theorem Ext.stay {H H1 : Hp} (a : Ext H H1) : Stay H H1 := fun x o h _ => a x o h
theorem Stay.refl {H : Hp} : Stay H H := fun _ _ h _ => h
theorem Stay.trans {H H1 H2 : Hp} (a : Stay H H1) (b : Stay H1 H2) : Stay H H2 := fun x o h n => b x o (a x o h n) n
theorem Ext.upd {H : Hp} {p : Addr} {o : HO} (h : H p = none) : Ext H (upd H p o) := fun a u e => by
  rw [upd_ne (ne_of_none e h)]; exact e
theorem Ext.none {H H' : Hp} (e : Ext H H') {a : Addr} (h : H' a = none) : H a = none := by
  cases q : H a with
  | none => rfl
  | some o => rw [e a o q] at h; cases h

/-! ### a heap's first part -/
def cut (L : Nat) (h : Heap) : Heap := { h with objs := h.objs.extract 0 L }
theorem cut_size {L : Nat} {h : Heap} : (cut L h).objs.size ≤ L := by
  show (h.objs.extract 0 L).size ≤ L
  rw [Array.size_extract]; omega
theorem cut_size' {L : Nat} {h : Heap} (hl : L ≤ h.objs.size) : (cut L h).objs.size = L := by
  show (h.objs.extract 0 L).size = L
  rw [Array.size_extract]; omega
theorem cut_lt {L : Nat} {h : Heap} {b : Addr} (hb : b < L) : (cut L h).get? b = h.get? b := by
  have hb : (b : Nat) < L := hb
  have e : (h.objs.extract 0 L)[b]? = h.objs[b]? := by
    rw [Array.getElem?_extract]
    by_cases hs : (b : Nat) < h.objs.size
    · rw [if_pos (by rw [Nat.sub_zero]; exact Nat.lt_min.mpr ⟨hb, hs⟩), Nat.zero_add]
    · rw [if_neg (by rw [Nat.sub_zero]; exact fun z => hs (Nat.lt_min.mp z).2)]
      exact (Array.getElem?_eq_none (Nat.le_of_not_lt hs)).symm
  simp only [Heap.get?, cut, e]
theorem cut_of {L : Nat} {h : Heap} {b : Addr} {o : Obj} (e : (cut L h).get? b = some o) : b < L ∧ h.get? b = some o := by
  have hb : b < L := Nat.lt_of_lt_of_le (Heap.lt_size e) cut_size
  exact ⟨hb, by rw [← cut_lt hb]; exact e⟩
theorem objOk_get {P : Program} {w : World} {H : Hp} {h : Heap} {a : Addr} {o : HO} (x : ObjOk P w H h a o) : ∃ ob, h.get? a = some ob := by
  cases o with
  | lst xs => obtain ⟨_, _, _, _, e⟩ := x; exact ⟨_, e⟩
  | tup xs => obtain ⟨_, _, _, o, e, _⟩ := x; exact ⟨_, e⟩
  | dK kvs => obtain ⟨_, _, _, _, o, _, _, e, _⟩ := x; exact ⟨_, e⟩
  | dT kvs => obtain ⟨_, _, _, _, o, _, _, e, _⟩ := x; exact ⟨_, e⟩
  | set S n => obtain ⟨o, _, _, _, e, _⟩ := x; exact ⟨_, e⟩
  | ins C dx fs => obtain ⟨_, _, _, e, _⟩ := x; exact ⟨_, e⟩
  | own y => obtain ⟨_, e⟩ := x; exact ⟨_, e⟩
  | xd fs => obtain ⟨_, ⟨_, _, _, e, _⟩, _⟩ := x; exact ⟨_, e⟩
  | rng lo hi => obtain ⟨_, _, _, e⟩ := x; exact ⟨_, e⟩
  | frz ob u => obtain ⟨e, _⟩ := x; exact ⟨_, e⟩
  | tbl ps => exact ⟨_, show h.get? a = some _ from x⟩
  | met f y => exact ⟨_, show h.get? a = some _ from x⟩
  | ext φ => obtain ⟨_, e, _⟩ := x; exact e
theorem funs_cut {base h : Heap} {L : Nat} : ∀ {l : List Env}, (∀ b ∈ frs l, b < L) → h.FunFrames base l → (cut L h).FunFrames base l
  | [], _, _ => trivial
  | env :: r, hl, ⟨hk, ⟨b, o, hf, hn, ho, hd⟩, hr⟩ => by
    refine ⟨hk, ⟨b, o, hf, hn, ?_, hd⟩, funs_cut (fun c hc => hl c ?_) hr⟩
    · rw [cut_lt (hl b (by unfold frs; rw [List.filterMap_cons, hf]; exact List.mem_cons_self))]; exact ho
    · unfold frs at hc ⊢
      rw [List.filterMap_cons, hf]; exact List.mem_cons_of_mem _ hc

/-! ### runs of the kit's model over hidden sleepers -/
theorem inv_gens {X : Cx} {pins : List (Addr × Obj)} {σ : L2.St} {H : Hp} {s s' : Shared} (I : Inv X pins σ H s) (hh : s'.heap = s.heap) (ho : s'.os = s.os) (hb : AllBare s'.gens) : Inv X pins σ H s' := by
  obtain ⟨h, g, d, t, o⟩ := s'
  have hh : h = s.heap := hh
  have ho : o = s.os := ho
  subst hh ho
  exact ⟨I.ok, I.os, hb, I.base, I.loc, I.cell, I.free, I.freeC, I.pin, I.hok, I.len⟩
theorem inv_psn {X : Cx} {pins : List (Addr × Obj)} {σ : L2.St} {H : Hp} {s : Shared} (I : Inv X pins σ H s) : Inv X pins σ H (psn s) := inv_gens I rfl rfl (psn_bare I.bare)
theorem inv_back {X : Cx} {pins : List (Addr × Obj)} {σ : L2.St} {H : Hp} {s s₁ s' : Shared} (b : Back s s₁ s') (hb : AllBare s.gens) (I : Inv X pins σ H s₁) : Inv X pins σ H s' := inv_gens I b.heap b.os (b.bare hb I.bare)
/-- over hidden sleepers; the table grows -/
theorem up_run {α : Type} {M : Model} {A : Around} {t : Sem α} {Q : α → Shared → Prop} {s : Shared} {n : Nat} (hn : n ≤ s.gens.size) (h : wpAny M A t Q (fun _ _ => False) (psn s)) :
    wpAny (up M) A t (fun a s' => ∃ s₁, Back s s₁ s' ∧ n ≤ s'.gens.size ∧ Q a s₁) (fun _ _ => False) s :=
  wpAny_mono (wpAny_gsz hn (wpAny_mono (wpAny_up h) (fun a s' x hs => (⟨hs, x⟩ : n ≤ s'.gens.size ∧ ∃ s₁, Back s s₁ s' ∧ Q a s₁)) fun _ _ ⟨_, _, x⟩ _ => x)) (fun a s' ⟨hs, s₁, b, q⟩ => ⟨s₁, b, hs, q⟩) fun _ _ x => x
theorem up_more {α : Type} {M : Model} {A : Around} {t : Sem α} {Q : α → Shared → Prop} {s s₁ s' : Shared} {n : Nat} (hn : n ≤ s'.gens.size) (b : Back s s₁ s') (h : wpAny M A t Q (fun _ _ => False) s₁) :
    wpAny (up M) A t (fun a s'' => ∃ s₂, Back s s₂ s'' ∧ n ≤ s''.gens.size ∧ Q a s₂) (fun _ _ => False) s' := by
  have q : wpAny (up M) A t (fun a s'' => ∃ s₂, Back s s₂ s'' ∧ Q a s₂) (fun _ _ => False) s' := fun Γ p hΓ => by
    have q := wp_up (g0 := s.gens) t _ _ p s₁ b.j (h Γ p hΓ)
    rw [← b.re] at q
    exact Sem.wp_mono (up M) Γ t (fun a p' s' ⟨s₁, e, j, z⟩ => ⟨s₁, ⟨e, j⟩, z⟩) (fun a p' s' ⟨s₁, e, j, z⟩ => z) p s' q
  exact wpAny_mono (wpAny_gsz hn (wpAny_mono q (fun a s' x hs => (⟨hs, x⟩ : n ≤ s'.gens.size ∧ ∃ s₁, Back s s₁ s' ∧ Q a s₁)) fun _ _ x _ => x)) (fun a s' ⟨hs, s₁, b, q⟩ => ⟨s₁, b, hs, q⟩) fun _ _ x => x

/-! ### what sleeps -/
def Kp (ks : List (Nat × GenState)) (G : Array GenState) : Prop := ∀ q ∈ ks, G[q.1]? = some q.2 ∧ isS (some q.2) = true
theorem Kp.back {ks : List (Nat × GenState)} {s s₁ s' : Shared} (k : Kp ks s.gens) (b : Back s s₁ s') : Kp ks s'.gens := fun q hq => by
  obtain ⟨e, h⟩ := k q hq
  refine ⟨?_, h⟩
  obtain ⟨i, x⟩ := q
  cases x with
  | suspended k l c p fs cl => exact b.keep e
  | _ => cases h
theorem Kp.set {ks : List (Nat × GenState)} {s : Shared} {g : Nat} {x : GenState} (k : Kp ks s.gens) (h : ∀ q ∈ ks, q.1 ≠ g) : Kp ks (s.setGen g x).gens := fun q hq => by
  refine ⟨?_, (k q hq).2⟩
  show (s.gens.setIfInBounds g x)[q.1]? = _
  rw [Array.getElem?_setIfInBounds_ne (Ne.symm (h q hq))]
  exact (k q hq).1
theorem Um.set_in {B : List Nat} {s : Shared} {g : Nat} {x : GenState} (u : Um B s.gens) (h : g ∈ B) : Um B (s.setGen g x).gens := fun i k l c p fs cl e hB hy => by
  have hne : g ≠ i := by rintro rfl; exact hB h
  have e : (s.gens.setIfInBounds g x)[i]? = _ := e
  rw [Array.getElem?_setIfInBounds_ne hne] at e
  exact u i k l c p fs cl e hB hy
theorem Um.fin {B : List Nat} {s : Shared} {g : Nat} (u : Um (g :: B) s.gens) : Um B (s.setGen g .finished).gens := fun i k l c p fs cl e hB hy => by
  by_cases hne : g = i
  · subst hne
    have e : (s.gens.setIfInBounds g .finished)[g]? = _ := e
    by_cases hl : g < s.gens.size
    · rw [Array.getElem?_setIfInBounds_self_of_lt hl] at e; cases e
    · rw [Array.getElem?_eq_none (by simpa using hl)] at e; cases e
  · have e : (s.gens.setIfInBounds g .finished)[i]? = _ := e
    rw [Array.getElem?_setIfInBounds_ne hne] at e
    exact u i k l c p fs cl e (by simp only [List.mem_cons, not_or]; exact ⟨fun z => hne z.symm, hB⟩) hy
theorem Um.more {B B' : List Nat} {G : Array GenState} (u : Um B G) (h : ∀ b ∈ B, b ∈ B') : Um B' G := fun i k l c p fs cl e hB hy => u i k l c p fs cl e (fun z => hB (h i z)) hy
theorem Um.push {B : List Nat} {G : Array GenState} (u : Um B G) (c : Code) : Um B (G.push (.fresh c)) := fun i k l c' p fs cl e hB hy => by
  rw [Array.getElem?_push] at e
  split at e
  · cases e
  · exact u i k l c' p fs cl e hB hy
theorem Kp.push {ks : List (Nat × GenState)} {G : Array GenState} (k : Kp ks G) (c : Code) : Kp ks (G.push (.fresh c)) := fun q hq => by
  obtain ⟨e, h⟩ := k q hq
  refine ⟨?_, h⟩
  have hi := (Array.getElem?_eq_some_iff.mp e).1
  rw [Array.getElem?_push, if_neg (Nat.ne_of_lt hi)]; exact e

/-! ### a generator -/
structure GSt where
  prog : Program
  w : World
  K : PySem.W.Frag
  mg : Str → Option Value
  base : Heap
  N : List Str
  env : Env
  outer : List Env
  k : Nat
  g : Nat
abbrev GSt.L (G : GSt) : Addr := G.env.locals
structure GSt.Ok (G : GSt) : Prop where
  mod : Mod G.K G.mg G.base
  kind : G.env.scope.kind = .function
  glob : G.env.globals = mainGlobals
  blt : G.env.builtins = builtinsNs
  frame : G.env.frame = some G.env.locals
  cells : G.env.cells = []
  noc : ∀ x, ¬ (G.env.kindOf x = some .cell ∨ G.env.kindOf x = some .free)
  bl : G.base.objs.size ≤ G.L
  low : ∀ b ∈ frs G.outer, b < G.L
/-- one wake: who asks -/
structure WD where
  A : Around
  s : Shared
  H : Hp
  xp : List (Addr × Obj)
  B : List Nat
abbrev gX (G : GSt) (W : WD) : Cx where
  prog := G.prog
  w := G.w
  K := G.K
  mg := G.mg
  base := G.base
  A := W.A.deeper G.env
  N := G.N
  s_0 := { W.s with heap := cut G.L W.s.heap }
  H_0 := W.H
  env := G.env
  outer := G.outer
  stack := G.env :: G.outer
  ex := []
  fn := fun _ => true
  calm := true
  pn := W.xp
  xe := fun _ _ => False
structure WOk (G : GSt) (pg : List (Addr × Obj)) (ks : List (Nat × GenState)) (Hr : Hp) (W : WD) : Prop where
  room : Room (G.k + 1) W.A
  e0 : Env0 G.prog G.w G.K G.mg G.base W.A G.outer W.s W.H
  stay : Stay Hr W.H
  hpg : ∀ p ∈ pg, W.s.heap.get? p.1 = some p.2 ∧ W.H p.1 = none
  hxp : ∀ p ∈ W.xp, W.s.heap.get? p.1 = some p.2 ∧ W.H p.1 = none ∧ p.1 ∉ frs G.outer ∧ (∀ v, p.2.data ≠ .cell v) ∧ ∀ q ∈ pg, p.1 ≠ q.1
  kp : Kp ks W.s.gens
  um : Um (G.g :: (ks.map (·.1) ++ W.B)) W.s.gens
  gl : G.g < W.s.gens.size
def offs (G : GSt) (W : WD) : List Addr := (List.range W.s.heap.objs.size).filter fun b => decide (G.L ≤ b) && (W.H b).isNone && !(W.xp.any (fun p => p.1 == b))
theorem mem_offs {G : GSt} {W : WD} {b : Addr} : b ∈ offs G W ↔ b < W.s.heap.objs.size ∧ G.L ≤ b ∧ W.H b = none ∧ ∀ p ∈ W.xp, p.1 ≠ b := by
  simp [offs, List.mem_filter, and_assoc]
structure After (G : GSt) (W : WD) (pg : List (Addr × Obj)) (ks : List (Nat × GenState)) (H : Hp) (s : Shared) : Prop where
  os : s.os = W.s.os
  bare : AllBare s.gens
  un : Un (frs G.outer) (offs G W) W.H H W.s.heap s.heap
  hok : HOk G.prog G.w H s.heap
  ext : Ext W.H H
  hpg : ∀ p ∈ pg, s.heap.get? p.1 = some p.2 ∧ H p.1 = none ∧ p.1 ∉ frs G.outer ∧ G.L ≤ p.1 ∧ (∀ v, p.2.data ≠ .cell v) ∧ ∀ q ∈ W.xp, q.1 ≠ p.1
  hxp : ∀ p ∈ W.xp, s.heap.get? p.1 = some p.2 ∧ H p.1 = none
  kp : Kp ks s.gens
  ne : ∀ q ∈ ks, G.g < q.1
  um : Um (G.g :: (ks.map (·.1) ++ W.B)) s.gens
  gl : G.g < s.gens.size
  lim : s.heap.NoLimit
abbrev Item := V → Hp → Prop
def Sleep (G : GSt) : List Item → List (Addr × Obj) → List (Nat × GenState) → Hp → GenState → Prop
  | [], pg, ks, Hr, gs => ∀ W, WOk G pg ks Hr W → Wk (M0 G.prog G.w) W.A (fun r s' => r = .ok (.ret .none) ∧ ∃ H', After G W [] [] H' s') (fun _ _ _ => False) gs W.s
  | it :: rest, pg, ks, Hr, gs => ∀ W, WOk G pg ks Hr W → Wk (M0 G.prog G.w) W.A (fun _ _ => False)
      (fun v gs' s' => ∃ x pg' ks' H', After G W pg' ks' H' s' ∧ RelV x v ∧ it x H' ∧ Sleep G rest pg' ks' H' gs' ∧ isS (some gs') = true) gs W.s
def goR (G : GSt) (W : WD) (its : List Item) (r : Result) (s' : Shared) : Prop := match its with
  | [] => r = .ok (.ret .none) ∧ ∃ H', After G W [] [] H' s'
  | _ :: _ => False
def goY (G : GSt) (W : WD) (its : List Item) (v : Value) (gs' : GenState) (s' : Shared) : Prop := match its with
  | [] => False
  | it :: rest => ∃ x pg' ks' H', After G W pg' ks' H' s' ∧ RelV x v ∧ it x H' ∧ Sleep G rest pg' ks' H' gs' ∧ isS (some gs') = true
theorem sleep_iff {G : GSt} {its : List Item} {pg : List (Addr × Obj)} {ks : List (Nat × GenState)} {Hr : Hp} {gs : GenState} :
    Sleep G its pg ks Hr gs ↔ ∀ W, WOk G pg ks Hr W → Wk (M0 G.prog G.w) W.A (goR G W its) (goY G W its) gs W.s := by
  cases its <;> exact Iff.rfl
abbrev R1 (G : GSt) (W : WD) (its : List Item) (c : Code) (t : Sem PySem.Fin) (fs : List Frame) (s : Shared) : Prop := Run1 (M0 G.prog G.w) W.A (goR G W its) (goY G W its) c t fs s

section
variable {G : GSt} {W W2 : WD} {pg ip : List (Addr × Obj)} {ks ks2 : List (Nat × GenState)} {Hr H : Hp} {σ : L2.St} {s : Shared}
theorem gX_ok (GO : G.Ok) (w : WOk G pg ks Hr W) : (gX G W).Ok where
  mod := GO.mod
  kind := GO.kind
  glob := GO.glob
  blt := GO.blt
  above := cut_size
  inj := fun x y c h => by rw [GO.cells] at h; cases h
  has := fun x h => (GO.noc x h).elim
  cab := fun x c _ h => by rw [GO.cells] at h; cases h
  hd := fun _ => w.room.hd
  frames := Around.frames_deeper w.e0.frames
  stk := .inr ⟨rfl, GO.frame⟩
  exf := fun b z => absurd (show b ∈ ([] : List Addr) from z) (by simp)
  bs := fun b o e => by
    obtain ⟨h1, h2⟩ := w.e0.bs b o e
    refine ⟨?_, h2⟩
    show (cut G.L W.s.heap).get? b = some o
    rw [cut_lt (Nat.lt_of_lt_of_le (Heap.lt_size e) GO.bl)]; exact h1
  bsz := by
    show G.base.objs.size ≤ (cut G.L W.s.heap).objs.size
    show _ ≤ (W.s.heap.objs.extract 0 G.L).size
    rw [Array.size_extract]
    have h1 := GO.bl
    have h2 := w.e0.bsz
    omega
  noex := fun b _ _ z => absurd (show b ∈ ([] : List Addr) from z) (by simp)
  exfs := fun b z => absurd (show b ∈ ([] : List Addr) from z) (by simp)
  funs := funs_cut GO.low w.e0.funs
  frf := w.e0.frf
/-- asleep: the frame's dict and the pins; woken again -/
theorem rebase (GO : G.Ok) (I : Inv (gX G W) ip σ H s) {oL : Obj} (hL : s.heap.get? G.L = some oL) (w : WOk G ((G.L, oL) :: ip) ks Hr W2) : Inv (gX G W2) ip σ W2.H W2.s := by
  have no : ∀ x c, (gX G W2).env.cells.lookup x ≠ some c := fun x c h => by
    have h : G.env.cells.lookup x = some c := h
    rw [GO.cells] at h; cases h
  obtain ⟨hL2, hLn⟩ := w.hpg (G.L, oL) List.mem_cons_self
  refine ⟨gX_ok GO w, rfl, w.e0.bare, Un.kept fun b o e => (cut_of e).2, ?_, fun x c h => absurd h (no x c), hLn, fun x c h => absurd h (no x c), fun p hp => ?_, w.e0.hok, I.len⟩
  · obtain ⟨m, ⟨o, es, ep, ho, r⟩, hl⟩ := I.loc
    have ho : s.heap.get? G.L = some o := ho
    rw [hL] at ho; cases ho
    refine ⟨m, ⟨oL, es, ep, hL2, r⟩, fun i x v e1 e2 e3 => ?_⟩
    obtain ⟨u, r, l⟩ := hl i x v e1 e2 e3
    refine ⟨u, r, ?_⟩
    rcases l with l | ⟨k, c, e, z⟩
    · exact .inl l
    · exact absurd (show (gX G W2).env.cells.lookup x = some c from e) (no x c)
  · rcases List.mem_append.mp hp with hp | hp
    · obtain ⟨h1, h2, h3, h4, h5⟩ := w.hxp p hp
      exact ⟨h1, h2, h5 (G.L, oL) List.mem_cons_self, h3, h4⟩
    · obtain ⟨h1, h2⟩ := w.hpg p (List.mem_cons_of_mem _ hp)
      obtain ⟨_, _, h3, h4, h5⟩ := I.pin p (List.mem_append_right _ hp)
      exact ⟨h1, h2, h3, h4, h5⟩
/-- running -/
structure RI (G : GSt) (W : WD) (ip : List (Addr × Obj)) (ks : List (Nat × GenState)) (σ : L2.St) (H : Hp) (s : Shared) : Prop where
  ok : G.Ok
  room : Room (G.k + 1) W.A
  lt : G.L < W.s.heap.objs.size
  inv : Inv (gX G W) ip σ H s
  kp : Kp ks s.gens
  ne : ∀ q ∈ ks, G.g < q.1
  um : Um (G.g :: (ks.map (·.1) ++ W.B)) s.gens
  gl : G.g < s.gens.size
  xs : ∀ p ∈ W.xp, W.s.heap.get? p.1 = some p.2
  dis : ∀ p ∈ ip, ∀ q ∈ W.xp, q.1 ≠ p.1
  lo : ∀ p ∈ ip, G.L ≤ p.1
theorem RI.un (R : RI G W ip ks σ H s) (e : Ext W.H H) : Un (frs G.outer) (offs G W) W.H H W.s.heap s.heap := by
  have I := R.inv
  have px : ∀ p ∈ W.xp, s.heap.get? p.1 = some p.2 ∧ H p.1 = none := fun p hp =>
    let z := I.pin p (List.mem_append_left _ hp)
    ⟨z.1, z.2.1⟩
  have low : ∀ {b o}, W.s.heap.get? b = some o → b < G.L → (gX G W).s_0.heap.get? b = some o := fun {b o} h hb => by
    show (cut G.L W.s.heap).get? b = some o
    rw [cut_lt hb]; exact h
  have far : ∀ {b : Addr} {o : Obj}, W.s.heap.get? b = some o → W.H b = none → b ∉ offs G W → ¬ b < G.L → s.heap.get? b = some o ∧ H b = none := fun {b o} h hn ho hb => by
    rw [mem_offs] at ho
    by_cases q : ∃ p ∈ W.xp, p.1 = b
    · obtain ⟨p, hp, rfl⟩ := q
      have := R.xs p hp
      rw [h] at this
      obtain ⟨z1, z2⟩ := px p hp
      exact ⟨by rw [z1, ← this], z2⟩
    · exact absurd ⟨Heap.lt_size h, Nat.le_of_not_lt hb, hn, fun p hp z => q ⟨p, hp, z⟩⟩ ho
  have nf : ∀ {b : Addr}, b ∈ frs G.outer → b < G.L := fun {b} hb => R.ok.low b hb
  have nx : ∀ b : Addr, b ∉ (gX G W).ex := fun b z => absurd (show b ∈ ([] : List Addr) from z) (by simp)
  refine ⟨fun b o h hn hf ho => ?_, fun b o h hn hf ho => ?_, fun b o h hn ho => ?_, fun b o h ho => ?_, fun b xs h => e b _ h, fun b o u h => e b _ h, fun b ps h => ⟨#[], by rw [e b _ h]; simp⟩⟩
  · by_cases hb : b < G.L
    · exact I.base.keep b o (low h hb) hn hf (nx b)
    · exact (far h hn ho hb).1
  · exact I.base.slot b o (low h (nf hf)) hn hf (nx b)
  · by_cases hb : b < G.L
    · exact I.base.free b o (low h hb) hn (nx b)
    · exact (far h hn ho hb).2
  · by_cases hb : b < G.L
    · exact I.base.there b o (low h hb) (nx b)
    · cases q : W.H b with
      | none => exact ⟨o, (far h q ho hb).1⟩
      | some u => exact objOk_get (I.hok b u (e b u q))
/-- to sleep, or to its end -/
theorem RI.after (R : RI G W ip ks σ H s) (e : Ext W.H H) {oL : Obj} (hL : s.heap.get? G.L = some oL) (hd : ∀ v, oL.data ≠ .cell v) : After G W ((G.L, oL) :: ip) ks H s where
  os := R.inv.os
  bare := R.inv.bare
  un := R.un e
  hok := R.inv.hok
  ext := e
  hpg := fun p hp => by
    rcases List.mem_cons.mp hp with rfl | hp
    · refine ⟨hL, R.inv.free, fun hb => absurd (R.ok.low _ hb) (Nat.lt_irrefl _), Nat.le_refl _, hd, fun q hq z => ?_⟩
      exact (R.inv.pin q (List.mem_append_left _ hq)).2.2.1 z
    · obtain ⟨h1, h2, h3, h4, h5⟩ := R.inv.pin p (List.mem_append_right _ hp)
      exact ⟨h1, h2, h4, R.lo p hp, h5, R.dis p hp⟩
  hxp := fun p hp => let z := R.inv.pin p (List.mem_append_left _ hp); ⟨z.1, z.2.1⟩
  kp := R.kp
  ne := R.ne
  um := R.um
  gl := R.gl
  lim := R.inv.nolimit
/-- its frame's dict -/
theorem RI.frame (R : RI G W ip ks σ H s) : ∃ oL, s.heap.get? G.L = some oL ∧ ∀ v, oL.data ≠ .cell v := by
  obtain ⟨m, ⟨o, es, ep, ho, hd, r⟩, _⟩ := R.inv.loc
  exact ⟨o, ho, fun v z => by rw [hd] at z; cases z⟩
theorem After.less {W : WD} {pg pg' : List (Addr × Obj)} {ks ks' : List (Nat × GenState)} (a : After G W pg ks H s) (h : ∀ p ∈ pg', p ∈ pg) (hk : ∀ q ∈ ks', q ∈ ks) (hu : Um (G.g :: (ks'.map (·.1) ++ W.B)) s.gens) : After G W pg' ks' H s :=
  ⟨a.os, a.bare, a.un, a.hok, a.ext, fun p hp => a.hpg p (h p hp), a.hxp, fun q hq => a.kp q (hk q hq), fun q hq => a.ne q (hk q hq), hu, a.gl, a.lim⟩
/-- woken: running again -/
theorem RI.woken (R : RI G W ip ks σ H s) {oL : Obj} (hL : s.heap.get? G.L = some oL) (w : WOk G ((G.L, oL) :: ip) ks H W2) : RI G W2 ip ks σ W2.H W2.s where
  ok := R.ok
  room := w.room
  lt := Heap.lt_size (w.hpg (G.L, oL) List.mem_cons_self).1
  inv := rebase R.ok R.inv hL w
  kp := w.kp
  ne := R.ne
  um := w.um
  gl := w.gl
  xs := fun p hp => (w.hxp p hp).1
  dis := fun p hp q hq => (w.hxp q hq).2.2.2.2 p (List.mem_cons_of_mem _ hp)
  lo := R.lo
end
end K0
end

section
set_option Elab.async false
set_option linter.all false
set_option maxRecDepth 100000
set_option maxHeartbeats 1000000
/-! a generator's body over the softened model -/
namespace K0
open PySem PySem.Spec PyProof.Rows L2 GenW
open Sem (wp)

/-- behind a statement: the items that are still due, the heap at the wake, the slots, the heap -/
structure GD where
  nx : List Item → Hp → L2.St → Hp → Prop
  bk : List Item → Hp → L2.St → Hp → Prop := fun _ _ _ _ => False
  ct : List Item → Hp → L2.St → Hp → Prop := fun _ _ _ _ => False
def GD.at (D : GD) (its : List Item) (H0 : Hp) : Ends := { nx := D.nx its H0, rt := fun _ _ => False, bk := D.bk its H0, ct := D.ct its H0 }
def GP (G : GSt) (ip : List (Addr × Obj)) (ks : List (Nat × GenState)) (D : GD) (its : List Item) (W : WD) (f : Flow) (s : Shared) : Prop := match f with
  | .next => ∃ σ H, RI G W ip ks σ H s ∧ D.nx its W.H σ H
  | .brk => ∃ σ H, RI G W ip ks σ H s ∧ D.bk its W.H σ H
  | .cont => ∃ σ H, RI G W ip ks σ H s ∧ D.ct its W.H σ H
  | .ret _ => False
structure GCd (G : GSt) (c : Code) (fs : List Frame) (gd : Bool → Bool) : Prop where
  over : ∀ A : Around, A.over c fs = A.deeper G.env
  split : splitAtGen fs = none
  guard : fs.any Frame.guarded = false
  gd : gd false = false
def GStm (G : GSt) (lp : Bool) (st : Stmt) (its : List Item) (H0 : Hp) (σ : L2.St) (H : Hp) (D : GD) : Prop :=
  ∀ (W : WD) (ip : List (Addr × Obj)) (ks : List (Nat × GenState)) (c : Code) (fs : List Frame) (K : Flow → Sem PySem.Fin) (J : Value → Sem PySem.Fin) (gd : Bool → Bool) (lv : List Value → List Value) (s : Shared), W.H = H0 → (lp = false → ks = []) → GCd G c fs gd →
    (∀ its' W' f s', GP G ip ks D its' W' f s' → R1 G W' its' c (K f) fs s') → RI G W ip ks σ H s → R1 G W its c ((exec st G.env).wrap K J gd lv) fs s
def GSts (G : GSt) (lp : Bool) (st : List Stmt) (its : List Item) (H0 : Hp) (σ : L2.St) (H : Hp) (D : GD) : Prop :=
  ∀ (W : WD) (ip : List (Addr × Obj)) (ks : List (Nat × GenState)) (c : Code) (fs : List Frame) (K : Flow → Sem PySem.Fin) (J : Value → Sem PySem.Fin) (gd : Bool → Bool) (lv : List Value → List Value) (s : Shared), W.H = H0 → (lp = false → ks = []) → GCd G c fs gd →
    (∀ its' W' f s', GP G ip ks D its' W' f s' → R1 G W' its' c (K f) fs s') → RI G W ip ks σ H s → R1 G W its c ((execs st G.env).wrap K J gd lv) fs s

section
variable {G : GSt} {lp : Bool} {st : Stmt} {rest : List Stmt} {its : List Item} {H0 H : Hp} {σ : L2.St} {D : GD} {W : WD} {ip : List (Addr × Obj)} {ks : List (Nat × GenState)} {s : Shared}
/-- what a run of the kit's model does to a generator's running state -/
theorem RI.back (R : RI G W ip ks σ H s) {ip' : List (Addr × Obj)} {σ' : L2.St} {H' : Hp} {s₁ s' : Shared} (b : Back s s₁ s') (hn : s.gens.size ≤ s'.gens.size) (I : Inv (gX G W) ip' σ' H' s₁)
    (dis : ∀ p ∈ ip', ∀ q ∈ W.xp, q.1 ≠ p.1) (lo : ∀ p ∈ ip', G.L ≤ p.1) : RI G W ip' ks σ' H' s' where
  ok := R.ok
  room := R.room
  lt := R.lt
  inv := inv_back b R.inv.bare I
  kp := R.kp.back b
  ne := R.ne
  um := b.um R.um
  gl := Nat.lt_of_lt_of_le R.gl hn
  xs := R.xs
  dis := dis
  lo := lo
theorem gs_imp {D' : GD} (h : GStm G lp st its H0 σ H D) (hn : ∀ its H0 σ H, D.nx its H0 σ H → D'.nx its H0 σ H) (hb : ∀ its H0 σ H, D.bk its H0 σ H → D'.bk its H0 σ H) (hc : ∀ its H0 σ H, D.ct its H0 σ H → D'.ct its H0 σ H) : GStm G lp st its H0 σ H D' := by
  intro W ip ks c fs K J gd lv s hW hk g k R
  refine h W ip ks c fs K J gd lv s hW hk g (fun its' W' f s' q => k its' W' f s' ?_) R
  cases f with
  | next => obtain ⟨σ, H, R, q⟩ := q; exact ⟨σ, H, R, hn _ _ _ _ q⟩
  | brk => obtain ⟨σ, H, R, q⟩ := q; exact ⟨σ, H, R, hb _ _ _ _ q⟩
  | cont => obtain ⟨σ, H, R, q⟩ := q; exact ⟨σ, H, R, hc _ _ _ _ q⟩
  | ret _ => exact q
theorem gs_ps {t : TS} (h : ∀ W, Room (G.k + 1) W.A → PS (gX G W) st t) (q : t (D.at its H0) σ H) : GStm G lp st its H0 σ H D := by
  intro W ip ks c fs K J gd lv s hW hk g k R
  subst hW
  refine r1_wrap ?_
  rw [g.over]
  refine wpAny_mono (up_run (Nat.le_refl _) ((h W R.room).run ip (psn s) σ H _ (inv_psn R.inv) q)) (fun f s' ⟨s₁, b, hn, p⟩ => ?_) fun _ _ x => x.elim
  refine k its W f s' ?_
  cases f with
  | next => obtain ⟨σ', H', I', p⟩ := p; exact ⟨σ', H', R.back b hn I' R.dis R.lo, p⟩
  | brk => obtain ⟨σ', H', I', p⟩ := p; exact ⟨σ', H', R.back b hn I' R.dis R.lo, p⟩
  | cont => obtain ⟨σ', H', I', p⟩ := p; exact ⟨σ', H', R.back b hn I' R.dis R.lo, p⟩
  | ret u => obtain ⟨v, σ', H', I', _, p⟩ := p; exact p
theorem gss_nil (q : D.nx its H0 σ H) : GSts G lp [] its H0 σ H D := by
  intro W ip ks c fs K J gd lv s hW hk g k R
  subst hW
  exact r1_execs_nil (k its W .next s ⟨σ, H, R, q⟩)
theorem gss_cons (h : GStm G lp st its H0 σ H { D with nx := fun its' H0' σ' H' => GSts G lp rest its' H0' σ' H' D }) : GSts G lp (st :: rest) its H0 σ H D := by
  intro W ip ks c fs K J gd lv s hW hk g k R
  refine r1_execs_cons (h W ip ks c fs _ J gd lv s hW hk g (fun its' W' f s' q => ?_) R)
  cases f with
  | next =>
    obtain ⟨σ', H', R', q⟩ := q
    exact q W' ip ks c fs K J gd lv s' rfl hk g k R'
  | brk => exact k its' W' .brk s' q
  | cont => exact k its' W' .cont s' q
  | ret u => exact q.elim
theorem gss_one (h : GStm G lp st its H0 σ H D) : GSts G lp [st] its H0 σ H D := gss_cons (gs_imp h (fun _ _ _ _ q => gss_nil q) (fun _ _ _ _ q => q) fun _ _ _ _ q => q)
theorem exec_If_eq (c : Expr) (a b : List Stmt) (pos : Pos) (env : Env) : ∃ f : Bool → Sem Flow, exec (.If c a b pos) env = (standAt pos >>= fun _ => isTrue c env (eval c env) >>= f) ∧ f true = execs a env ∧ f false = execs b env :=
  ⟨fun x => if x then execs a env else execs b env, rfl, rfl, rfl⟩
theorem gs_if {c : Expr} {a b : List Stmt} {tc : TT} {pos : Pos} (h : ∀ W, Room (G.k + 1) W.A → PT (gX G W) c tc) (q : tc σ H fun x H1 => if x = true then GSts G lp a its H0 σ H1 D else GSts G lp b its H0 σ H1 D) : GStm G lp (.If c a b pos) its H0 σ H D := by
  intro W ip ks cc fs K J gd lv s hW hk g k R
  obtain ⟨f, e, e1, e2⟩ := exec_If_eq c a b pos G.env
  rw [e]
  refine r1_bw (wpAny_standAt (r1_bw ?_))
  rw [g.over]
  refine wpAny_mono (up_run (Nat.le_refl _) ((h W R.room).run ip (psn s) σ H _ (inv_psn R.inv) q)) (fun x s' ⟨s₁, b, hn, H1, I1, p⟩ => ?_) fun _ _ x => x.elim
  have R' := R.back b hn I1 R.dis R.lo
  cases x with
  | true => rw [e1]; exact p W ip ks cc fs K J gd lv s' hW hk g k R'
  | false => rw [e2]; exact p W ip ks cc fs K J gd lv s' hW hk g k R'
/-- yield -/
theorem gs_yield {e : Expr} {yp pos : Pos} {te : TE} (h : ∀ W, Room (G.k + 1) W.A → PE (gX G W) e te)
    (q : te σ H fun x H1 => ∃ it rest, its = it :: rest ∧ Ext H0 H1 ∧ it x H1 ∧ ∀ H2, Stay H1 H2 → D.nx rest H2 σ H2) (hco : G.env.scope.isCoroutine = false := by rfl) (hi : interactive G.env = false := by rfl) : GStm G lp (.Expr (.Yield (some e) yp) pos) its H0 σ H D := by
  intro W ip ks c fs K J gd lv s hW hk g k R
  subst hW
  rw [exec_Expr G.env _ pos hi rfl]
  show Run1 _ _ _ _ c (.at pos fun _ => ((eval e G.env >>= fun v => (standAt yp >>= fun _ => yieldOut G.env v)) >>= fun x => dropValue (.Yield (some e) yp) pos x).wrap K J gd lv) fs s
  have hy : ∀ v, yieldOut G.env v = yieldValue v := fun v => by simp only [yieldOut, hco, Bool.false_eq_true, if_false]
  simp only [hy]
  refine r1_at ?_
  rw [Sem.bind_eq_wrap', Sem.bind_eq_wrap', Sem.wrap_wrap, Sem.wrap_wrap]
  refine r1_wrap ?_
  rw [g.over]
  refine wpAny_mono (up_run (Nat.le_refl _) ((h W R.room).run ip (psn s) σ H _ (inv_psn R.inv) q)) (fun v s' ⟨s₁, b, hn, x, H1, I1, r1, it, rest, e1, e2, p, nx⟩ => ?_) fun _ _ x => x.elim
  subst e1
  have R' := R.back b hn I1 R.dis R.lo
  obtain ⟨oL, hL, hd⟩ := R'.frame
  refine r1_at (r1_yield g.split g.gd g.guard fun p' l' => ?_)
  refine ⟨x, (G.L, oL) :: ip, ks, H1, R'.after e2 hL hd, r1, p, ?_, rfl⟩
  refine sleep_iff.mpr fun W2 w2 => ?_
  have R2 := R'.woken hL w2
  show Run1 _ _ _ _ c _ fs W2.s
  exact k rest W2 .next W2.s ⟨σ, W2.H, R2, nx W2.H w2.stay⟩
theorem RI.unpin {pl : List (Addr × Obj)} (R : RI G W (ip ++ pl) ks σ H s) : RI G W ip ks σ H s :=
  ⟨R.ok, R.room, R.lt, R.inv.unpinned, R.kp, R.ne, R.um, R.gl, R.xs, fun p hp => R.dis p (List.mem_append_left _ hp), fun p hp => R.lo p (List.mem_append_left _ hp)⟩
theorem gcd_loop {c c' : Code} {fs : List Frame} {gd : Bool → Bool} {k : Result → Sem PySem.Fin} {l kp : List Value} {p : Pos} (g : GCd G c fs gd) (hw : c'.weight = 0) (hu : c'.cUnits = 0) : GCd G c' (.ret k none (gd false) l c p kp :: fs) id where
  over := fun A => (over_loop hw hu).trans (g.over A)
  split := by
    show (splitAtGen fs).map _ = none
    rw [g.split]; rfl
  guard := by
    show (gd false || fs.any Frame.guarded) = false
    rw [g.gd, g.guard]; rfl
  gd := rfl
/-- for, over what the kit's model serves; the body may yield -/
theorem gs_for {tg iter : Expr} {body : List Stmt} {wi : TI} {g : TG} {pos : Pos} (hi : ∀ W, Room (G.k + 1) W.A → PI (gX G W) tg iter wi) (hg : ∀ W, Room (G.k + 1) W.A → PG (gX G W) tg g)
    (q : wi σ H fun J H1 => ∃ Pv : Nat → Nat → List Item → Hp → L2.St → Hp → Prop, (∃ m, Pv 0 m its H0 σ H1) ∧ ∀ i m its H0 σ H, Pv i m its H0 σ H →
      (J.stop i H ∧ D.nx its H0 σ H) ∨ (J.go i H ∧ ∀ x H', J.yld i H x H' → g x σ H' fun σ2 H2 => GSts G lp body its H0 σ2 H2
        { nx := fun its' H0' σ' H' => ∃ m', m' < m ∧ Pv (i + 1) m' its' H0' σ' H', ct := fun its' H0' σ' H' => ∃ m', m' < m ∧ Pv (i + 1) m' its' H0' σ' H', bk := D.nx }))
    (hs : ∀ x, foldedSetIterable iter G.env x = pure x := by intro _; rfl) : GStm G lp (.For tg iter body [] pos) its H0 σ H D := by
  intro W ip ks c fs K J gd lv s hW hk gc k R
  subst hW
  refine r1_For ?_ hs
  rw [gc.over]
  refine wpAny_mono (up_run (Nat.le_refl _) ((hi W R.room).run ip (psn s) σ H _ (inv_psn R.inv) q)) (fun v s1 ⟨t1, b1, n1, h1⟩ => ?_) fun _ _ x => x.elim
  refine wpAny_mono (up_more n1 b1 h1) (fun itv s2 ⟨t2, b2, n2, h2⟩ => ?_) fun _ _ x => x.elim
  obtain ⟨it, fp, tn, J1, H2, e, I2, T, st2, f2, Pv, ⟨m0, w0⟩, turn⟩ := h2
  subst e
  intro p l
  have R2 := R.back b2 n2 I2 R.dis R.lo
  have hcut : (cut G.L W.s.heap).objs.size = G.L := cut_size' (Nat.le_of_lt R.lt)
  -- what stays true of the iterator's objects
  have f3 : ∀ b ∈ fp, b ≠ G.L ∧ b ∉ frs G.outer ∧ G.L ≤ b ∧ ∀ p ∈ ip, p.1 ≠ b := fun b hb => by
    obtain ⟨_, h1, h2, h3, _, h5⟩ := f2 b hb
    refine ⟨h1, h2, ?_, fun p hp => h5 p (List.mem_append_right _ hp)⟩
    rcases h3 with z | z
    · exact absurd (show b ∈ ([] : List Addr) from z) (by simp)
    · have z : (cut G.L W.s.heap).objs.size ≤ b := z
      rw [hcut] at z; exact z
  have f4 : ∀ b ∈ fp, H2 b = none ∧ ∀ q ∈ W.xp, q.1 ≠ b := fun b hb => by
    obtain ⟨h0, _, _, _, _, h5⟩ := f2 b hb
    exact ⟨h0, fun p hp => h5 p (List.mem_append_left _ hp)⟩
  have gl := fun (kk : Result → Sem PySem.Fin) => gcd_loop (k := kk) (c' := .forLoop tg (.ref it) body [] G.env) (l := l) (kp := []) (p := p) gc rfl rfl
  have loop : ∀ (m i : Nat) (its : List Item) (W : WD) (σ : L2.St) (H : Hp) (s : Shared), Pv i m its W.H σ H → RI G W ip ks σ H s → tn i s.heap → (∀ b ∈ fp, H b = none ∧ ∀ q ∈ W.xp, q.1 ≠ b) →
      R1 G W its (.forLoop tg (.ref it) body [] G.env) ((M0 G.prog G.w).den (.forLoop tg (.ref it) body [] G.env)) (.ret (fun r => ((match r with | .ok f => (.pure f : Sem Flow) | .error e => .raise e).onRaise fun (x : Value) => do
        if (← field x 1) == Value.none then unsupported "frame.own-activation:exception-without-traceback"
        setFlight x G.env.frame).wrap K J gd lv) none (gd false) l c p [] :: fs) s := by
    intro m
    induction m using Nat.strongRecOn with
    | ind m ih =>
      intro i its W σ H s pv R st hf
      have hcut : (cut G.L W.s.heap).objs.size = G.L := cut_size' (Nat.le_of_lt R.lt)
      have FP : ∀ {H : Hp}, (∀ b ∈ fp, H b = none) → ∀ b ∈ fp, FpOk (gX G W) ip H b := fun {H} hn b hb => by
        obtain ⟨h1, h2, h3, h4⟩ := f3 b hb
        refine ⟨hn b hb, h1, h2, .inr ?_, fun x c e => ?_, fun p hp => ?_⟩
        · show (cut G.L W.s.heap).objs.size ≤ b
          rw [hcut]; exact h3
        · have e : G.env.cells.lookup x = some c := e
          rw [R.ok.cells] at e; cases e
        · rcases List.mem_append.mp hp with hp | hp
          · exact (hf b hb).2 p hp
          · exact h4 p hp
      refine r1_forLoop ?_
      rw [(gl _).over]
      rcases turn i m its W.H σ H pv with ⟨stop, qn⟩ | ⟨go, step⟩
      · refine wpAny_mono (up_run (Nat.le_refl _) (T.done (gX G W) rfl rfl rfl rfl i ip (psn s) σ H (fun _ _ => False) (inv_psn R.inv) (FP fun b hb => (hf b hb).1) st stop)) (fun r s1 ⟨t1, b1, n1, hr, I1⟩ => ?_) fun _ _ x => x.elim
        subst hr
        exact r1_leaf (.ok .next) (k its W .next s1 ⟨σ, H, R.back b1 n1 I1 R.dis R.lo, qn⟩)
      · refine wpAny_mono (up_run (Nat.le_refl _) (T.item (gX G W) rfl rfl rfl rfl i ip (psn s) σ H (fun _ _ => False) (inv_psn R.inv) (FP fun b hb => (hf b hb).1) st go)) (fun r s1 ⟨t1, b1, n1, u, hr, h1⟩ => ?_) fun _ _ x => x.elim
        subst hr
        refine wpAny_mono (up_more n1 b1 h1) (fun _ s2 ⟨t2, b2, n2, x, H5, I5, r5, y5, st5, fr5⟩ => ?_) fun _ _ x => x.elim
        have I5' := I5.pinned (FP fr5) (T.obj _ _ st5)
        refine wpAny_mono (up_more n2 b2 ((hg W R.room).run _ t2 σ H5 x u _ I5' r5 (step x H5 y5))) (fun _ s3 ⟨t3, b3, n3, σ6, H6, I6, q6⟩ => ?_) fun _ _ x => x.elim
        intro J'
        have R3 : RI G W (ip ++ pinsAt fp t2.heap) ks σ6 H6 s3 := R.back b3 n3 I6 (fun p hp q hq => by
          rcases List.mem_append.mp hp with hp | hp
          · exact R.dis p hp q hq
          · exact (hf p.1 (of_pinsAt hp).1).2 q hq) fun p hp => by
          rcases List.mem_append.mp hp with hp | hp
          · exact R.lo p hp
          · exact (f3 p.1 (of_pinsAt hp).1).2.2.1
        refine q6 W _ ks _ _ _ J' id id s3 rfl hk (gl _) (fun its' W' f s4 q4 => ?_) R3
        have again : ∀ {σ7 : L2.St} {H7 : Hp}, RI G W' (ip ++ pinsAt fp t2.heap) ks σ7 H7 s4 → (∃ m', m' < m ∧ Pv (i + 1) m' its' W'.H σ7 H7) → R1 G W' its' (.forLoop tg (.ref it) body [] G.env) (.pure (.again (.forLoop tg (.ref it) body [] G.env))) (.ret (fun r => ((match r with | .ok f => (.pure f : Sem Flow) | .error e => .raise e).onRaise fun (x : Value) => do
            if (← field x 1) == Value.none then unsupported "frame.own-activation:exception-without-traceback"
            setFlight x G.env.frame).wrap K J gd lv) none (gd false) l c p [] :: fs) s4 := fun {σ7 H7} R7 ⟨m', hm, w7⟩ => by
          refine r1_again rfl (ih m' hm (i + 1) its' W' σ7 H7 s4 w7 R7.unpin (T.keep _ _ _ st5 fun b hb o e => (R7.inv.pin (b, o) (List.mem_append_right _ (List.mem_append_right _ (mem_pinsAt hb e)))).1) fun b hb => ?_)
          obtain ⟨o, e, d⟩ := T.obj _ _ st5 b hb
          exact ⟨(R7.inv.pin (b, o) (List.mem_append_right _ (List.mem_append_right _ (mem_pinsAt hb e)))).2.1, R7.dis (b, o) (List.mem_append_right _ (mem_pinsAt hb e))⟩
        cases f with
        | next => obtain ⟨σ7, H7, R7, n7⟩ := q4; exact again R7 n7
        | cont => obtain ⟨σ7, H7, R7, n7⟩ := q4; exact again R7 n7
        | brk => obtain ⟨σ7, H7, R7, q7⟩ := q4; exact r1_leaf (.ok .next) (k its' W' .next s4 ⟨σ7, H7, R7.unpin, q7⟩)
        | ret v => exact q4.elim
  refine loop m0 0 its W σ H2 s2 w0 R2 ?_ f4
  rw [b2.heap]; exact st2
end
end K0
end

section
set_option Elab.async false
set_option linter.all false
set_option maxRecDepth 100000
set_option maxHeartbeats 1000000
/-! who asks a generator for its items -/
namespace K0
open PySem PySem.Spec PyProof.Rows L2 GenW
open Sem (wp)

def IsGo (o : Obj) (g : Nat) : Prop := ∃ nm qn, o.cls = .type "generator" ∧ o.data = .fields #[.int g 0, nm, qn] ∧ (o.slots = #[] ∨ o.slots = #[some (.int 0 0)])
theorem IsGo.isG {o : Obj} {g : Nat} {h : Heap} {a : Addr} (x : IsGo o g) (e : h.get? a = some o) : IsG h a g := let ⟨nm, qn, h1, h2, h3⟩ := x; ⟨o, nm, qn, e, h1, h2, h3⟩
theorem IsGo.nocell {o : Obj} {g : Nat} (x : IsGo o g) : ∀ v, o.data ≠ .cell v := fun v z => by obtain ⟨_, _, _, h, _⟩ := x; rw [h] at z; cases z
theorem wk_mono {M : Model} {A : Around} {Qr Qr' : Result → Shared → Prop} {Qy Qy' : Value → GenState → Shared → Prop} {gs : GenState} {s : Shared} (h : Wk M A Qr Qy gs s) (h1 : ∀ r s, Qr r s → Qr' r s) (h2 : ∀ v g s, Qy v g s → Qy' v g s) : Wk M A Qr' Qy' gs s := by
  have e1 : ∀ e s, EndIs Qr Qy e s → EndIs Qr' Qy' e s := fun e s q => by
    cases e with
    | ret r => exact h1 _ _ q
    | susp v g l k c p fs => exact h2 _ _ _ q
  cases gs with
  | fresh c => exact fun Γ p hc hΓ => let ⟨e, s', a, b, d⟩ := h Γ p hc hΓ; ⟨e, s', a, b, e1 e s' d⟩
  | suspended k₀ l₀ c₀ p₀ fs₀ cl => exact fun Γ p hc hΓ => let ⟨e, s', a, b, d⟩ := h Γ p hc hΓ; ⟨e, s', a, b, e1 e s' d⟩
  | running => exact h
  | finished => exact h

abbrev mkG (X : Cx) (N : List Str) (env : Env) (k g : Nat) : GSt := ⟨X.prog, X.w, X.K, X.mg, X.base, N, env, X.stack, k, g⟩
/-- a generator that its asker holds: asleep -/
structure Held (X : Cx) (pins lx : List (Addr × Obj)) (B : List Nat) (a : Addr) (oa : Obj) (G : GSt) (its : List Item) (pg : List (Addr × Obj)) (ks : List (Nat × GenState)) (Hr : Hp) (gs : GenState) (s : Shared) : Prop where
  ok : G.Ok
  ia : IsGo oa G.g
  at_ : s.gens[G.g]? = some gs
  kp : Kp ks s.gens
  ne : ∀ q ∈ ks, G.g < q.1
  um : Um (G.g :: (ks.map (·.1) ++ B)) s.gens
  slp : Sleep G its pg ks Hr gs
  sep : ∀ p ∈ X.pn ++ (pins ++ (a, oa) :: lx), ∀ q ∈ pg, p.1 ≠ q.1
  lo : ∀ q ∈ pg, G.L ≤ q.1
/-- where the asker's own things are -/
structure Asks (X : Cx) (A : Around) (lx : List (Addr × Obj)) (G : GSt) (H : Hp) (s : Shared) : Prop where
  room : Room (G.k + 1) A.in1
  fr : A.frames = some X.stack
  own : ∀ p ∈ lx, s.heap.get? p.1 = some p.2 ∧ H p.1 = none ∧ p.1 ∉ frs X.stack ∧ ∀ v, p.2.data ≠ .cell v
  loc : X.env.locals < G.L ∨ ∃ p ∈ lx, p.1 = X.env.locals
  cell : ∀ x c, X.env.cells.lookup x = some c → c < G.L
  ex : ∀ b, G.L ≤ b → b < s.heap.objs.size → H b = none → b ∈ X.ex ∨ X.s_0.heap.objs.size ≤ b

section
variable {X : Cx} {A : Around} {pins lx pg : List (Addr × Obj)} {B : List Nat} {a : Addr} {oa : Obj} {N : List Str} {env : Env} {k g : Nat} {its : List Item} {ks : List (Nat × GenState)} {Hr H : Hp} {gs : GenState} {σ : L2.St} {s : Shared}
theorem fs_sub (ok : X.Ok) : ∀ b ∈ X.fs, b ∈ frs X.stack := fun b hb => by
  rcases ok.stk with e | ⟨e, hf⟩
  · rw [e]; exact hb
  · rw [e]
    unfold frs
    rw [List.filterMap_cons, hf]
    exact List.mem_cons_of_mem _ hb
abbrev wkD (X : Cx) (A : Around) (pins lx : List (Addr × Obj)) (B : List Nat) (a : Addr) (oa : Obj) (g : Nat) (H : Hp) (s : Shared) : WD := ⟨A.in1, s.setGen g .running, H, X.pn ++ (pins ++ (a, oa) :: lx), B⟩
theorem asks_ok (I : Inv X (pins ++ (a, oa) :: pg) σ H s) (h : Held X pins lx B a oa (mkG X N env k g) its pg ks Hr gs s) (st : Stay Hr H) (q : Asks X A lx (mkG X N env k g) H s) : WOk (mkG X N env k g) pg ks Hr (wkD X A pins lx B a oa g H s) where
  room := q.room
  e0 := by
    have e := I.env0
    exact ⟨q.fr, e.mod, e.bs, e.bsz, e.funs, e.frf, e.hok, allBare_setGen e.bare rfl⟩
  stay := st
  hpg := fun p hp => let z := I.pin p (List.mem_append_right _ (List.mem_append_right _ (List.mem_cons_of_mem _ hp))); ⟨z.1, z.2.1⟩
  hxp := fun p hp => by
    have hsep := h.sep p hp
    have key : ∀ p, p ∈ X.pn ++ (pins ++ (a, oa) :: pg) → s.heap.get? p.1 = some p.2 ∧ H p.1 = none ∧ p.1 ∉ frs X.stack ∧ ∀ v, p.2.data ≠ .cell v := fun p hp => by
      obtain ⟨h1, h2, h3, h4, h5⟩ := I.pin p hp
      refine ⟨h1, h2, fun z => ?_, h5⟩
      rcases List.mem_cons.mp (I.stkSub _ z) with z | z
      · exact h3 z
      · exact h4 z
    have fin : s.heap.get? p.1 = some p.2 ∧ H p.1 = none ∧ p.1 ∉ frs X.stack ∧ ∀ v, p.2.data ≠ .cell v := by
      rcases List.mem_append.mp hp with z | z
      · exact key p (List.mem_append_left _ z)
      · rcases List.mem_append.mp z with z | z
        · exact key p (List.mem_append_right _ (List.mem_append_left _ z))
        · rcases List.mem_cons.mp z with z | z
          · exact key p (List.mem_append_right _ (List.mem_append_right _ (by rw [z]; exact List.mem_cons_self)))
          · exact q.own p z
    exact ⟨fin.1, fin.2.1, fin.2.2.1, fin.2.2.2, hsep⟩
  kp := h.kp.set fun q hq => Nat.ne_of_gt (h.ne q hq)
  um := h.um.set_in List.mem_cons_self
  gl := by
    have := (Array.getElem?_eq_some_iff.mp h.at_).1
    show g < (s.setGen g .running).gens.size
    rw [setGen_size]; exact this
/-- behind a wake: the asker's state -/
theorem after_inv (I : Inv X (pins ++ (a, oa) :: pg) σ H s) (h : Held X pins lx B a oa (mkG X N env k g) its pg ks Hr gs s) (q : Asks X A lx (mkG X N env k g) H s) {pg' : List (Addr × Obj)} {ks' : List (Nat × GenState)} {H' : Hp} {s' : Shared}
    (af : After (mkG X N env k g) (wkD X A pins lx B a oa g H s) pg' ks' H' s') : Inv X (pins ++ (a, oa) :: pg') σ H' s' := by
  have I0 : Inv X (pins ++ [(a, oa)]) σ H s := I.pins_of fun p hp => I.pin p (List.mem_append_right _ (by
    rcases List.mem_append.mp hp with z | z
    · exact List.mem_append_left _ z
    · rw [List.mem_singleton.mp z]; exact List.mem_append_right _ List.mem_cons_self))
  have off : ∀ b ∈ offs (mkG X N env k g) (wkD X A pins lx B a oa g H s), b < s.heap.objs.size ∧ env.locals ≤ b ∧ H b = none ∧ ∀ p ∈ X.pn ++ (pins ++ (a, oa) :: lx), p.1 ≠ b := fun b hb => mem_offs.mp hb
  have inx : ∀ p, p ∈ X.pn ++ (pins ++ [(a, oa)]) → p ∈ X.pn ++ (pins ++ (a, oa) :: lx) := fun p hp => by
    simp only [List.mem_append, List.mem_cons, List.mem_singleton] at hp ⊢
    grind
  have hl : ∀ b, env.locals ≤ b → (∀ p ∈ X.pn ++ (pins ++ (a, oa) :: lx), p.1 ≠ b) → b ≠ X.env.locals := fun b hb hx e => by
    rcases q.loc with z | ⟨p, hp, z⟩
    · rw [← e] at z
      exact absurd (Nat.lt_of_lt_of_le z hb) (Nat.lt_irrefl _)
    · exact hx p (List.mem_append_right _ (List.mem_append_right _ (List.mem_cons_of_mem _ hp))) (z.trans e.symm)
  have I1 : Inv X (pins ++ [(a, oa)]) σ H' s' := I0.call' (ch := offs (mkG X N env k g) (wkD X A pins lx B a oa g H s)) af.os af.un af.hok af.bare fun b hb => by
    obtain ⟨h1, h2, h3, h4⟩ := off b hb
    exact ⟨q.ex b h2 h1 h3, hl b h2 h4, fun x c e z => by
      subst z
      exact absurd (Nat.lt_of_lt_of_le (q.cell x c e) h2) (Nat.lt_irrefl _), fun p hp => h4 p (inx p hp)⟩
  refine I1.pins_of fun p hp => ?_
  rcases List.mem_append.mp hp with z | z
  · exact I1.pin p (List.mem_append_right _ (List.mem_append_left _ z))
  · rcases List.mem_cons.mp z with z | z
    · rw [z]; exact I1.pin (a, oa) (List.mem_append_right _ (List.mem_append_right _ List.mem_cons_self))
    · obtain ⟨h1, h2, h3, h4, h5, h6⟩ := af.hpg p z
      exact ⟨h1, h2, hl p.1 h4 h6, fun z => h3 (fs_sub I.ok _ z), h5⟩
/-- what an asker may do with what comes -/
theorem wake_core (I : Inv X (pins ++ (a, oa) :: pg) σ H s) (h : Held X pins lx B a oa (mkG X N env k g) its pg ks Hr gs s) (st : Stay Hr H) (q : Asks X A lx (mkG X N env k g) H s) :
    Wk (M0 X.prog X.w) A.in1 (fun r s₁ => r = .ok (.ret .none) ∧ its = [] ∧ ∃ H', Inv X (pins ++ [(a, oa)]) σ H' (s₁.setGen g .finished) ∧ Ext H H' ∧ Um B (s₁.setGen g .finished).gens ∧ ∀ p ∈ lx, s₁.heap.get? p.1 = some p.2 ∧ H' p.1 = none)
      (fun v gs' s₁ => gs'.bare = true → ∃ it rest x pg' ks' H', its = it :: rest ∧ Inv X (pins ++ (a, oa) :: pg') σ H' (s₁.setGen g gs') ∧ Held X pins lx B a oa (mkG X N env k g) rest pg' ks' H' gs' (s₁.setGen g gs') ∧ RelV x v ∧ it x H' ∧ Ext H H' ∧
        (∀ p ∈ lx, s₁.heap.get? p.1 = some p.2 ∧ H' p.1 = none) ∧ isS (some gs') = true) gs (s.setGen g .running) := by
  have w := asks_ok I h st q
  have sl := sleep_iff.mp h.slp _ w
  have xl : ∀ p ∈ lx, p ∈ X.pn ++ (pins ++ (a, oa) :: lx) := fun p hp => List.mem_append_right _ (List.mem_append_right _ (List.mem_cons_of_mem _ hp))
  refine wk_mono sl (fun r s₁ hr => ?_) fun v gs' s₁ hy hb => ?_
  · cases its with
    | cons it rest => exact hr.elim
    | nil =>
      obtain ⟨rfl, H', af⟩ := hr
      have I1 := after_inv I h q af
      have um := af.um
      exact ⟨rfl, rfl, H', inv_gens I1 rfl rfl (allBare_setGen af.bare rfl), af.ext, Um.fin (by simpa using um), fun p hp => af.hxp p (xl p hp)⟩
  · cases its with
    | nil => exact hy.elim
    | cons it rest =>
      obtain ⟨x, pg', ks', H', af, rv, hi, slp, hS⟩ := hy
      have I1 := after_inv I h q af
      refine ⟨it, rest, x, pg', ks', H', rfl, inv_gens I1 rfl rfl (allBare_setGen af.bare hb), ⟨h.ok, h.ia, setGen_at af.gl, af.kp.set fun q hq => Nat.ne_of_gt (af.ne q hq), af.ne, af.um.set_in List.mem_cons_self, slp, fun p hp q hq => (af.hpg q hq).2.2.2.2.2 p hp, fun q hq => (af.hpg q hq).2.2.2.1⟩, rv, hi, af.ext, fun p hp => af.hxp p (xl p hp), hS⟩
/-- the next item, by a loop -/
theorem wake_next {Q : Option Value → Shared → Prop} {E : Value → Shared → Prop} (I : Inv X (pins ++ (a, oa) :: pg) σ H s) (h : Held X pins lx B a oa (mkG X N env k g) its pg ks Hr gs s) (st : Stay Hr H) (q : Asks X A lx (mkG X N env k g) H s)
    (hstop : ∀ H' s', its = [] → Inv X (pins ++ [(a, oa)]) σ H' s' → Ext H H' → Um B s'.gens → (∀ p ∈ lx, s'.heap.get? p.1 = some p.2 ∧ H' p.1 = none) → s.gens.size ≤ s'.gens.size → Q none s')
    (hitem : ∀ it rest v x pg' ks' H' gs' s', its = it :: rest → Inv X (pins ++ (a, oa) :: pg') σ H' s' → Held X pins lx B a oa (mkG X N env k g) rest pg' ks' H' gs' s' → RelV x v → it x H' → Ext H H' → (∀ p ∈ lx, s'.heap.get? p.1 = some p.2 ∧ H' p.1 = none) → isS (some gs') = true → s.gens.size ≤ s'.gens.size → Q (some v) s') :
    wpAny (M0 X.prog X.w) A (pyNext (.ref a)) Q E s := by
  have hg : IsG s.heap a g := h.ia.isG (I.pin (a, oa) (List.mem_append_right _ (List.mem_append_right _ List.mem_cons_self))).1
  refine wpAny_gsz (Nat.le_refl s.gens.size) (u_nextG q.room.hd I.nolimit q.room.depth hg h.at_ (wk_mono (wake_core I h st q) (fun r s₁ hr => ?_) fun v gs' s₁ hv hb => ?_))
  · obtain ⟨rfl, e, H', I1, ex, um, hl⟩ := hr
    exact ⟨rfl, fun h' hk hn => hstop H' _ e (I1.kept (t' := s₁.toks) hk) ex um (fun p hp => ⟨hk _ _ (hl p hp).1, (hl p hp).2⟩) hn⟩
  · obtain ⟨it, rest, x, pg', ks', H', e, I1, h1, rv, hi, ex, hl, hS⟩ := hv hb
    exact fun hn => hitem it rest v x pg' ks' H' gs' _ e I1 h1 rv hi ex hl hS hn
end
end K0
end

section
set_option Elab.async false
set_option linter.all false
set_option maxRecDepth 100000
set_option maxHeartbeats 1000000
/-! a generator def's promise; loops over a generator within a generator -/
namespace K0
open PySem PySem.Spec PyProof.Rows L2 GenW
open Sem (wp)

/-- what a call of a generator def gives -/
def Made (P : Program) (w : World) (K : PySem.W.Frag) (mg : Str → Option Value) (base : Heap) (k : Nat) (outer : List Env) (s : Shared) (H : Hp) (its : List Item) (u : Value) (s' : Shared) : Prop :=
  ∃ (a : Addr) (oa oL : Obj) (c : Code) (N : List Str) (env : Env), u = .ref a ∧ GSt.Ok ⟨P, w, K, mg, base, N, env, outer, k, s.gens.size⟩ ∧ env.locals = s.heap.objs.size ∧ s.heap.objs.size < a ∧ s'.os = s.os ∧ s'.gens = s.gens.push (.fresh c) ∧
    (∀ b o, s.heap.get? b = some o → s'.heap.get? b = some o) ∧ s'.heap.get? a = some oa ∧ IsGo oa s.gens.size ∧ s'.heap.get? env.locals = some oL ∧ (∀ v, oL.data ≠ .cell v) ∧
    Sleep ⟨P, w, K, mg, base, N, env, outer, k, s.gens.size⟩ its [(env.locals, oL)] [] H (.fresh c)
abbrev SpI := List V → Hp → List Item → Prop
structure GF (P : Program) (w : World) (K : PySem.W.Frag) (mg : Str → Option Value) (base : Heap) (k : Nat) (f : Addr) (fd : FuncData) (ps : List Str) (sp : SpI) : Prop where
  len : ∀ vs H its, sp vs H its → vs.length = ps.length
  run : ∀ (A : Around) (outer : List Env) (s : Shared) (H : Hp) (args : Args) (us : List Value) (vs : List V) (its : List Item), Room (k + 1) A → Env0 P w K mg base A outer s H → BindsTo s fd args (ps.zip us) → Vals vs us → sp vs H its →
    codeAny (M0 P w) A (.call (.ref f) args) (fun r s' => ∃ u, r = .ok (.ret u) ∧ Made P w K mg base k outer s H its u s') s

section
variable {P : Program} {w : World} {A : Around} {Qr : Result → Shared → Prop} {Qy : Value → GenState → Shared → Prop} {fs : List Frame} {s : Shared} {env : Env}
theorem r1_func {body : List Stmt}
    (h : ∀ J, Run1 (M0 P w) A Qr Qy (.func body env) ((execs body env).wrap (fun f => .pure (.done (.ret (match f with | .ret v => v | _ => .none)))) J id id) fs s) :
    Run1 (M0 P w) A Qr Qy (.func body env) ((M0 P w).den (.func body env)) fs s := by
  rw [up_den rfl]
  show Run1 _ A Qr Qy _ (.point [] fun _ => ((execs body env).onRaise (leaving env)) >>= _) fs s
  refine r1_point ?_
  rw [Sem.onRaise_eq_wrap, Sem.bind_eq_wrap', Sem.wrap_wrap]
  rw [Sem.wrap_congr (execs body env) _ _ (K' := fun f => .pure (.done (.ret (match f with | .ret v => v | _ => .none))))
    (H' := fun e => (leaving env e).wrap (fun _ => .raise e) .raise id id) (fun f => by cases f <;> rfl)
    (fun e => by rw [Sem.bind_eq_wrap, Sem.wrap_wrap]; rfl)]
  exact h _
end
/-- running, from the frame's dict as it stands -/
theorem inv_of_loc {G : GSt} {W : WD} {pg : List (Addr × Obj)} {ks : List (Nat × GenState)} {Hr : Hp} {σ : L2.St} (GO : G.Ok) (w : WOk G pg ks Hr W) (hn : W.H G.L = none) (hp : ∀ p ∈ W.xp, p.1 ≠ G.L) (hl : σ.length = G.N.length)
    (loc : ∃ m, W.s.heap.Ns G.L m ∧ ∀ (i : Nat) (x : Str) (v : V), G.N[i]? = some x → σ[i]? = some (some v) → Vis G.env.scope x → ∃ u, RelV v u ∧ Look G.env W.s.heap m x u) : Inv (gX G W) [] σ W.H W.s := by
  have no : ∀ x c, (gX G W).env.cells.lookup x ≠ some c := fun x c h => by
    have h : G.env.cells.lookup x = some c := h
    rw [GO.cells] at h; cases h
  refine ⟨gX_ok GO w, rfl, w.e0.bare, Un.kept fun b o e => (cut_of e).2, loc, fun x c h => absurd h (no x c), hn, fun x c h => absurd h (no x c), fun p hp' => ?_, w.e0.hok, hl⟩
  rw [List.append_nil] at hp'
  obtain ⟨h1, h2, h3, h4, h5⟩ := w.hxp p hp'
  exact ⟨h1, h2, hp p hp', h3, h4⟩
/-- THE RULE: a generator def, by its body -/
theorem gf_of {P : Program} {w : World} {K : PySem.W.Frag} {mg : Str → Option Value} {base : Heap} {k : Nat} {f : Addr} {name qual : Str} {params : Arguments} {body : List Stmt} {scope : Scope} {dV kV doc pm cdv ct oc : Value} {an od : Option Addr}
    {osl : Array (Option Value)} {N ps : List Str} {sp : SpI} (lk : K.lookup f = some ⟨oc, od, .func (PySem.W.fnOf name qual params body scope dV kV doc pm an cdv ct), osl⟩) (hcd : PySem.W.codeIn K cdv qual = true) (S : GScope N ps scope)
    (hnc : ∀ y ∈ scope.names, y.2 ≠ .cell ∧ y.2 ≠ .free) (len : ∀ vs H its, sp vs H its → vs.length = ps.length)
    (hbody : ∀ (outer : List Env) (L : Addr) (g : Nat) (vs : List V) (H : Hp) (its : List Item), sp vs H its → ∀ H0, Stay H H0 → GSts ⟨P, w, K, mg, base, N, envOfC qual scope L f cdv, outer, k, g⟩ false body its H0 (start N vs) H0 { nx := fun its' H0' _ H' => its' = [] ∧ Ext H0' H' }) :
    GF P w K mg base k f (PySem.W.fnOf name qual params body scope dV kV doc pm an cdv ct) ps sp := by
  refine ⟨len, fun A outer s H args us vs its hr e0 hb r hsp => ?_⟩
  have hl := len _ _ _ hsp
  have KX : K.In s.heap := e0.mod.kin.keeps fun b o e => (e0.bs b o e).1
  have lim : s.heap.NoLimit := e0.mod.nolimit.keeps fun b o e => (e0.bs b o e).1
  have hkind : ∀ y ∈ ps.zip us, scope.names.lookup y.1 = some .local ∨ (scope.names.lookup y.1 = some .cell ∧ ((cellsFrom (s.heap.objs.size + 1) scope.names []).lookup y.1).isSome = true) := fun ⟨n, v⟩ hy => by
    rcases S.par n (List.of_mem_zip hy).1 with q | q
    · exact .inl q
    · exact .inr ⟨q, PySem.W.cellsFrom_some _ _ _ (.inl q)⟩
  refine u_call_generator hr.depth (KX _ _ lk) rfl S.co S.gen rfl (PySem.W.codeRec_of KX hcd) (hb _ _ _ _ ?_)
  refine wpAny_newFunctionEnv_cells S.kind hkind fun env he s1 x => ?_
  subst he
  have lim1 : s1.heap.NoLimit := lim.keeps x.toInCall.keep
  refine ⟨lim1, ?_⟩
  obtain ⟨h1, tk, es1, hk1⟩ := x.done
  have gen1 : s1.gens = s.gens := by rw [es1]
  have os1 : s1.os = s.os := by rw [es1]
  have I1 := inv_startG (E := fun _ _ _ => False) S hr.hd e0 hl r x
  obtain ⟨m, hns, hloc⟩ := I1.loc
  have ecells : (envOfC qual scope s.heap.objs.size f cdv).cells = [] := by
    have all : ∀ (names : List (Str × NameKind)) (n : Nat) (acc : List (Str × Addr)), (∀ y ∈ names, y.2 ≠ .cell ∧ y.2 ≠ .free) → cellsFrom n names acc = acc := by
      intro names
      induction names with
      | nil => intro n acc _; rfl
      | cons y r ih =>
        intro n acc h
        obtain ⟨y1, y2⟩ := y
        unfold cellsFrom
        rw [if_neg (by have := (h (y1, y2) List.mem_cons_self).1; simpa using this)]
        exact ih n acc fun z hz => h z (List.mem_cons_of_mem _ hz)
    exact all _ _ _ hnc
  have noc : ∀ x, ¬ ((envOfC qual scope s.heap.objs.size f cdv).kindOf x = some .cell ∨ (envOfC qual scope s.heap.objs.size f cdv).kindOf x = some .free) := fun x hx => by
    have hx : scope.names.lookup x = some .cell ∨ scope.names.lookup x = some .free := hx
    rcases hx with hx | hx
    · exact (hnc _ (PySem.mem_of_lookup hx)).1 rfl
    · exact (hnc _ (PySem.mem_of_lookup hx)).2 rfl
  obtain ⟨oL, es, ep, hoL, hdL, rL⟩ := id hns
  have hoL : s1.heap.get? s.heap.objs.size = some oL := hoL
  have hLlt : s.heap.objs.size < s1.heap.objs.size := Heap.lt_size hoL
  have kp1 : ∀ b o, s.heap.get? b = some o → s1.heap.get? b = some o := x.toInCall.keep
  have GO : GSt.Ok ⟨P, w, K, mg, base, N, envOfC qual scope s.heap.objs.size f cdv, outer, k, s.gens.size⟩ :=
    ⟨e0.mod, S.kind, rfl, rfl, rfl, ecells, noc, e0.bsz, fun b hb => by
      obtain ⟨_, o, ho, _⟩ := e0.funs.mem hb
      exact Heap.lt_size ho⟩
  refine ⟨_, rfl, s1.heap.objs.size, _, oL, .func body (envOfC qual scope s.heap.objs.size f cdv), N, envOfC qual scope s.heap.objs.size f cdv, rfl, GO, rfl, hLlt, os1, (by rw [gen1]; rfl), fun b o e => Heap.get?_push_of_some _ (kp1 b o e), Heap.get?_push_size _ rfl, ?_, Heap.get?_push_of_some _ hoL, fun v z => (by rw [hdL] at z; cases z), ?_⟩
  · exact ⟨_, _, rfl, by rw [gen1], .inl rfl⟩
  · refine sleep_iff.mpr fun W wo => ?_
    obtain ⟨hL2, hLn⟩ := wo.hpg _ List.mem_cons_self
    have hL2 : W.s.heap.get? s.heap.objs.size = some oL := hL2
    have J : Inv (gX ⟨P, w, K, mg, base, N, envOfC qual scope s.heap.objs.size f cdv, outer, k, s.gens.size⟩ W) [] (start N vs) W.H W.s := by
      refine inv_of_loc GO wo hLn (fun p hp => (wo.hxp p hp).2.2.2.2 _ List.mem_cons_self) I1.len ⟨m, ⟨oL, es, ep, hL2, hdL, rL⟩, fun i y v a1 a2 a3 => ?_⟩
      obtain ⟨u, ru, l⟩ := hloc i y v a1 a2 a3
      refine ⟨u, ru, ?_⟩
      rcases l with l | ⟨hk, _⟩
      · exact .inl l
      · exact absurd hk (noc y)
    have R : RI ⟨P, w, K, mg, base, N, envOfC qual scope s.heap.objs.size f cdv, outer, k, s.gens.size⟩ W [] [] (start N vs) W.H W.s :=
      ⟨GO, wo.room, Heap.lt_size hL2, J, fun q hq => (by cases hq), fun q hq => (by cases hq), wo.um, wo.gl, fun p hp => (wo.hxp p hp).1, fun p hp => (by cases hp), fun p hp => (by cases hp)⟩
    refine r1_func fun J' => ?_
    refine hbody outer s.heap.objs.size s.gens.size vs H its hsp W.H wo.stay W [] [] _ [] _ J' id id W.s rfl (fun _ => rfl) ⟨fun A => over_func, rfl, rfl, rfl⟩ (fun its' W' fl s' q => ?_) R
    have fin : (∃ σ H, RI ⟨P, w, K, mg, base, N, envOfC qual scope s.heap.objs.size f cdv, outer, k, s.gens.size⟩ W' [] [] σ H s' ∧ its' = [] ∧ Ext W'.H H) → R1 ⟨P, w, K, mg, base, N, envOfC qual scope s.heap.objs.size f cdv, outer, k, s.gens.size⟩ W' its' (.func body (envOfC qual scope s.heap.objs.size f cdv)) (.pure (.done (.ret .none))) [] s' := by
      rintro ⟨σ, H', R', rfl, ex⟩
      obtain ⟨o', ho', hd'⟩ := R'.frame
      exact r1_end (.ok (.ret .none)) ⟨rfl, H', (R'.after ex ho' hd').less (fun p hp => (by cases hp)) (fun q hq => hq) R'.um⟩
    cases fl with
    | next => exact fin q
    | brk => obtain ⟨_, _, _, q⟩ := q; exact q.elim
    | cont => obtain ⟨_, _, _, q⟩ := q; exact q.elim
    | ret u => exact q.elim
end K0
end

section
set_option Elab.async false
set_option linter.all false
set_option maxRecDepth 100000
set_option maxHeartbeats 1000000
/-! loops over a generator within a generator; yield from -/
namespace K0
open PySem PySem.Spec PyProof.Rows L2 GenW
open Sem (wp)

section
variable {X : Cx} {pins : List (Addr × Obj)} {σ : L2.St} {H : Hp} {s : Shared} {E : Value → Shared → Prop} {Q : Value → Shared → Prop}
/-- f(e, ..) of a global def, over the softened model; the arguments by the kit's -/
theorem u_callX (hx : X.xe = fun _ _ => False) (I : Inv X pins σ H s) {f : Addr} {x : Str} {p pos : Pos} {e : Expr} {es : List Expr} {t : TA} {R : List V → Hp → Prop} (hg : Gl X x) (hm : X.mg x = some (.ref f)) (hk : PySem.W.keepIn X.K (.ref f) = true) (ha : PA X (e :: es) t)
    (q : t σ H R) (fin : ∀ us vs H1 s1 t1, Back s t1 s1 → s.gens.size ≤ s1.gens.size → Inv X pins σ H1 s1 → Vals vs us → R vs H1 → wpAny (M0 X.prog X.w) X.A (call (.ref f) us) Q E s1)
    (hdb : (x == ("__debug__" : Str)) = false := by decide) (he : starEach (e :: es) X.env = (false, eval e X.env) :: starEach es X.env := by rfl) (hpl : (backTo pos (starEach es X.env)).any (·.1) = false := by rfl) :
    wpAny (M0 X.prog X.w) X.A (eval (.Call (.Name x p) (e :: es) [] pos) X.env) Q E s := by
  refine wpAny_Call_Name_kw (Calls.Name_function_global I.ok.kind hg (Calls.loadGlobal_global (by rw [I.ok.glob]; exact I.mod.glob.keeps I.bk) hm ?_) hdb)
  refine PySem.W.callWith_K (h₀ := X.base) I.ok.mod.kin hk ?_ he hpl
  have h := ha.run pos pins (psn s) σ H R (inv_psn I) q
  rw [hx] at h
  refine wpAny_mono (up_run (Nat.le_refl _) h) (fun us s1 ⟨t1, b1, n1, vs, H1, I1, r, q1⟩ => ?_) fun _ _ x => x.elim
  have I1' := inv_back b1 I.bare I1
  exact ⟨I1'.kIn, fin us vs H1 s1 t1 b1 n1 I1' r q1⟩
/-- a call of a generator def -/
theorem u_callG (hx : X.xe = fun _ _ => False) (I : Inv X pins σ H s) {f : Addr} {x : Str} {p pos : Pos} {e : Expr} {es : List Expr} {t : TA} {k : Nat} {fd : FuncData} {ps : List Str} {sp : SpI} {dvs : List V} {ds : List Value} {R : List Item → Hp → Prop} (F : GF X.prog X.w X.K X.mg X.base k f fd ps sp)
    (hr : Room (k + 1) X.A) (hg : Gl X x) (hm : X.mg x = some (.ref f)) (hk : PySem.W.keepIn X.K (.ref f) = true) (hb : Binds X.K fd ps ds) (hd : Vals dvs ds) (ha : PA X (e :: es) t)
    (q : t σ H fun vs H1 => ∃ its, sp (vs ++ dvs) H1 its ∧ R its H1)
    (fin : ∀ u its H1 s0 t0 s1, Back s t0 s0 → s.gens.size ≤ s0.gens.size → Inv X pins σ H1 s0 → R its H1 → Made X.prog X.w X.K X.mg X.base k X.stack s0 H1 its u s1 → Q u s1)
    (hdb : (x == ("__debug__" : Str)) = false := by decide) (he : starEach (e :: es) X.env = (false, eval e X.env) :: starEach es X.env := by rfl) (hpl : (backTo pos (starEach es X.env)).any (·.1) = false := by rfl) :
    wpAny (M0 X.prog X.w) X.A (eval (.Call (.Name x p) (e :: es) [] pos) X.env) Q E s := by
  refine u_callX hx I hg hm hk ha q (fun us vs H1 s1 t1 b1 n1 I1 r ⟨its, hs, hR⟩ => ?_) hdb he hpl
  have r2 : Vals (vs ++ dvs) (us ++ ds) := r.append hd
  have hl : (us ++ ds).length = ps.length := by rw [← r2.length]; exact F.len _ _ _ hs
  refine wpAny_call (codeAny_mono (F.run X.A X.stack s1 H1 ⟨us, []⟩ (us ++ ds) (vs ++ dvs) its hr I1.env0 (hb s1 us I1.kIn hl) r2 hs) fun r s' hq => ?_)
  obtain ⟨u, rfl, hm⟩ := hq
  exact fin u its H1 s1 t1 s' b1 n1 I1 hR hm
end
section
variable {G : GSt} {st : Stmt} {rest : List Stmt} {its : List Item} {H0 H : Hp} {σ : L2.St} {D : GD} {W : WD} {ip : List (Addr × Obj)} {ks : List (Nat × GenState)} {s : Shared}
/-- for x in f(e, ..), f a generator def, within a generator -/
theorem gs_forG {f : Addr} {x : Str} {p pos pos' : Pos} {e : Expr} {es : List Expr} {t : TA} {k : Nat} {fd : FuncData} {ps : List Str} {sp : SpI} {dvs : List V} {ds : List Value} {tg : Expr} {g : TG} {body : List Stmt} (F : GF G.prog G.w G.K G.mg G.base k f fd ps sp)
    (hkk : k + 2 ≤ G.k) (hg : ∀ W, Gl (gX G W) x) (hm : G.mg x = some (.ref f)) (hkp : PySem.W.keepIn G.K (.ref f) = true) (hb : Binds G.K fd ps ds) (hd : Vals dvs ds) (ha : ∀ W, Room (G.k + 1) W.A → PA (gX G W) (e :: es) t) (hgt : ∀ W, Room (G.k + 1) W.A → PG (gX G W) tg g)
    (q : t σ H fun vs H1 => ∃ its2, sp (vs ++ dvs) H1 its2 ∧ ∃ Pv : List Item → List Item → Hp → L2.St → Hp → Prop, Pv its2 its H0 σ H1 ∧ (∀ its H0 σ H H', Pv [] its H0 σ H → Ext H H' → D.nx its H0 σ H') ∧
      ∀ it rest its H0 σ H x H', Pv (it :: rest) its H0 σ H → Ext H H' → it x H' → g x σ H' fun σ2 H2 => GSts G true body its H0 σ2 H2 { nx := fun its' H0' σ' H'' => Stay H' H'' ∧ Pv rest its' H0' σ' H'', ct := fun its' H0' σ' H'' => Stay H' H'' ∧ Pv rest its' H0' σ' H'' })
    (hgo : ∀ (it : Value) (u : Value) (M : Model) (A : Around) (E : Value → Shared → Prop) (s : Shared) (a : Addr) (o : Obj) (gg : Nat) (Q : Unit → Shared → Prop), it = .ref a → s.heap.get? a = some o → IsGo o gg → Q () s → wpAny M A (letOwnedTupleGo tg it u) Q E s := by
      intro it u M A E s a o gg Q e ho hi hq; subst e; obtain ⟨nm, qn, hc, hd, _⟩ := hi; exact go_of ho hc hd (by decide) hq)
    (hdb : (x == ("__debug__" : Str)) = false := by decide) (he : starEach (e :: es) G.env = (false, eval e G.env) :: starEach es G.env := by rfl) (hpl : (backTo pos (starEach es G.env)).any (·.1) = false := by rfl)
    (hs : ∀ y, foldedSetIterable (.Call (.Name x p) (e :: es) [] pos) G.env y = pure y := by intro _; rfl) : GStm G false (.For tg (.Call (.Name x p) (e :: es) [] pos) body [] pos') its H0 σ H D := by
  intro W ip ks c fs K J gd lv s hW hk gc kont R
  subst hW
  have hks := hk rfl
  subst hks
  have rX : ∀ {W : WD}, Room (G.k + 1) W.A → Room (k + 2) (gX G W).A := fun r => (r.deeper G.env).mono hkk
  refine r1_For ?_ hs
  rw [gc.over]
  refine u_callG (X := gX G W) rfl R.inv F ((rX R.room).mono (by omega)) (hg W) hm hkp hb hd (ha W R.room) q (fun u its2 H1 s0 t0 s1 b0 n0 I0 hR made => ?_) hdb he hpl
  obtain ⟨Pv, p0, pstop, pstep⟩ := hR
  obtain ⟨a, oa, oL, c2, N, env, rfl, GO2, hL2, ha2, hos, hgens, hkeep, hoa, hia, hoL, hnc, slp⟩ := made
  have hia' : IsG s1.heap a s0.gens.size := hia.isG hoa
  refine u_iter hia' ?_
  intro pp l
  have gl := fun (kk : Result → Sem PySem.Fin) => gcd_loop (k := kk) (c' := .forLoop tg (.ref a) body [] G.env) (l := l) (kp := []) (p := pp) gc rfl rfl
  -- the frame that the loop comes back to
  generalize hfr : Frame.ret (fun r => ((match r with | .ok f => (.pure f : Sem Flow) | .error e => .raise e).onRaise fun (x : Value) => do
        if (← field x 1) == Value.none then unsupported "frame.own-activation:exception-without-traceback"
        setFlight x G.env.frame).wrap K J gd lv) none (gd false) l c pp [] = fr
  have glf : GCd G (.forLoop tg (.ref a) body [] G.env) (fr :: fs) id := by rw [← hfr]; exact gl _
  have leave : ∀ {its' : List Item} {W' : WD} {s' : Shared}, GP G ip [] D its' W' .next s' → R1 G W' its' (.block [] G.env) (leafOf (.ok .next)) (fr :: fs) s' := fun {its' W' s'} q => by
    rw [← hfr]
    exact r1_leaf (.ok .next) (kont its' W' .next s' q)
  have hGL : G.L < env.locals := by
    rw [hL2]; exact I0.lt
  have loop : ∀ (rest : List Item) (its : List Item) (W : WD) (σ : L2.St) (Hr H : Hp) (s : Shared) (pg : List (Addr × Obj)) (ks : List (Nat × GenState)) (gs : GenState), Pv rest its W.H σ H → Stay Hr H → Room (G.k + 1) W.A → G.L < W.s.heap.objs.size → (∀ p ∈ W.xp, W.s.heap.get? p.1 = some p.2) →
      (∀ p ∈ ip ++ [(a, oa)], ∀ q ∈ W.xp, q.1 ≠ p.1) → Inv (gX G W) (ip ++ (a, oa) :: pg) σ H s → Held (gX G W) ip [] (G.g :: W.B) a oa (mkG (gX G W) N env k s0.gens.size) rest pg ks Hr gs s → G.g < s.gens.size →
      R1 G W its (.forLoop tg (.ref a) body [] G.env) ((M0 G.prog G.w).den (.forLoop tg (.ref a) body [] G.env)) (fr :: fs) s := by
    intro rest
    induction rest with
    | nil =>
      intro its W σ Hr H s pg ks gs pv st room lt xs dis I h glt
      refine r1_forLoop ?_
      rw [glf.over]
      have asks : Asks (gX G W) (gX G W).A [] (mkG (gX G W) N env k s0.gens.size) H s := ⟨(rX room).in1, I.ok.frames, fun p hp => (by cases hp), .inl hGL, fun x c e => (by rw [R.ok.cells] at e; cases e), fun b hb _ _ => .inr (Nat.le_trans cut_size (Nat.le_trans (Nat.le_of_lt hGL) hb))⟩
      refine wake_next I h st asks (fun H' s' _ I' ex um _ hn => ?_) fun it rest v x pg' ks' H' gs' s' e => by cases e
      refine leave ⟨σ, H', ⟨R.ok, room, lt, I'.pins_of fun p hp => I'.pin p (List.mem_append_right _ (List.mem_append_left _ hp)), fun q hq => (by cases hq), fun q hq => (by cases hq), um, Nat.lt_of_lt_of_le glt hn, xs, fun p hp => dis p (List.mem_append_left _ hp), R.lo⟩, pstop _ _ _ _ _ pv ex⟩
    | cons it rest ih =>
      intro its W σ Hr H s pg ks gs pv st room lt xs dis I h glt
      refine r1_forLoop ?_
      rw [glf.over]
      have asks : Asks (gX G W) (gX G W).A [] (mkG (gX G W) N env k s0.gens.size) H s := ⟨(rX room).in1, I.ok.frames, fun p hp => (by cases hp), .inl hGL, fun x c e => (by rw [R.ok.cells] at e; cases e), fun b hb _ _ => .inr (Nat.le_trans cut_size (Nat.le_trans (Nat.le_of_lt hGL) hb))⟩
      refine wake_next I h st asks (fun H' s' e => by cases e) fun it' rest' v x pg' ks' H' gs' s' e I' h' rv hit ex _ hS hn => ?_
      cases e
      have hoa' := (I'.pin (a, oa) (List.mem_append_right _ (List.mem_append_right _ List.mem_cons_self))).1
      refine hgo _ _ _ _ _ _ a oa s0.gens.size _ rfl hoa' hia ?_
      refine wpAny_mono (up_run (Nat.le_refl _) ((hgt W room).run _ (psn s') σ H' x v _ (inv_psn I') rv (pstep _ _ _ _ _ _ _ _ pv ex hit))) (fun _ s2 ⟨t2, b2, n2, σ2, H2, I2, q2⟩ => ?_) fun _ _ x => x.elim
      intro J'
      have gg : G.g < s0.gens.size := Nat.lt_of_lt_of_le R.gl n0
      have hsep : ∀ p ∈ W.xp ++ (ip ++ [(a, oa)]), ∀ q ∈ pg', p.1 ≠ q.1 := h'.sep
      have kp2 : Kp ((s0.gens.size, gs') :: ks') s'.gens := fun q hq => by
        rcases List.mem_cons.mp hq with rfl | hq
        · exact ⟨h'.at_, hS⟩
        · exact h'.kp q hq
      have um2 : Um (G.g :: (((s0.gens.size, gs') :: ks').map (·.1) ++ W.B)) s'.gens := h'.um.more fun b hb => by
        simp only [List.map_cons, List.cons_append, List.mem_cons, List.mem_append] at hb ⊢
        grind
      have R2 : RI G W (ip ++ (a, oa) :: pg') ((s0.gens.size, gs') :: ks') σ2 H2 s2 := by
        refine ⟨R.ok, room, lt, inv_back b2 I'.bare I2, kp2.back b2, fun q hq => ?_, b2.um um2, Nat.lt_of_lt_of_le glt (Nat.le_trans hn n2), xs, fun p hp q hq => ?_, fun p hp => ?_⟩
        · rcases List.mem_cons.mp hq with rfl | hq
          · exact gg
          · exact Nat.lt_trans gg (h'.ne q hq)
        · rcases List.mem_append.mp hp with hp | hp
          · exact dis p (List.mem_append_left _ hp) q hq
          · rcases List.mem_cons.mp hp with rfl | hp
            · exact dis (a, oa) (List.mem_append_right _ List.mem_cons_self) q hq
            · exact hsep q (List.mem_append_left _ hq) p hp
        · rcases List.mem_append.mp hp with hp | hp
          · exact R.lo p hp
          · rcases List.mem_cons.mp hp with rfl | hp
            · exact Nat.le_of_lt (Nat.lt_trans (by rw [hL2] at hGL; exact hGL) ha2)
            · have := (I'.pin p (List.mem_append_right _ (List.mem_append_right _ (List.mem_cons_of_mem _ hp))))
              exact Nat.le_trans (Nat.le_of_lt hGL) (h'.lo p hp)
      refine q2 W _ _ _ _ _ J' id id s2 rfl (fun z => by cases z) glf (fun its' W' f s4 q4 => ?_) R2
      have again : ∀ {σ7 : L2.St} {H7 : Hp}, RI G W' (ip ++ (a, oa) :: pg') ((s0.gens.size, gs') :: ks') σ7 H7 s4 → Stay H' H7 ∧ Pv rest its' W'.H σ7 H7 → R1 G W' its' (.forLoop tg (.ref a) body [] G.env) (.pure (.again (.forLoop tg (.ref a) body [] G.env))) (fr :: fs) s4 := fun {σ7 H7} R7 ⟨st7, pv7⟩ => by
        have hsub : ∀ p, p ∈ ip ++ [(a, oa)] → p ∈ ip ++ (a, oa) :: pg' := fun p hp => by
          rcases List.mem_append.mp hp with hp | hp
          · exact List.mem_append_left _ hp
          · rw [List.mem_singleton.mp hp]; exact List.mem_append_right _ List.mem_cons_self
        refine r1_again rfl (ih its' W' σ7 H' H7 s4 pg' ks' gs' pv7 st7 R7.room R7.lt R7.xs (fun p hp => R7.dis p (hsub p hp)) R7.inv ⟨h'.ok, h'.ia, (R7.kp (s0.gens.size, gs') List.mem_cons_self).1, fun q hq => R7.kp q (List.mem_cons_of_mem _ hq), h'.ne, R7.um.more fun b hb => ?_, h'.slp, fun p hp q hq => ?_, h'.lo⟩ R7.gl)
        · simp only [List.map_cons, List.cons_append, List.mem_cons, List.mem_append] at hb ⊢
          grind
        · rcases List.mem_append.mp hp with hp | hp
          · exact R7.dis q (List.mem_append_right _ (List.mem_cons_of_mem _ hq)) p hp
          · exact hsep p (List.mem_append_right _ hp) q hq
      cases f with
      | next => obtain ⟨σ7, H7, R7, n7⟩ := q4; exact again R7 n7
      | cont => obtain ⟨σ7, H7, R7, n7⟩ := q4; exact again R7 n7
      | brk => obtain ⟨_, _, _, z⟩ := q4; exact z.elim
      | ret v => exact q4.elim
  have I1 : Inv (gX G W) (ip ++ (a, oa) :: [(env.locals, oL)]) σ H1 s1 := by
    have J1 : Inv (gX G W) ip σ H1 s1 := I0.call' (ch := []) hos (Un.kept hkeep) (I0.hok.kept hkeep) (by rw [hgens]; exact AllBare.push I0.bare rfl) fun b hb => by simp at hb
    have young : ∀ b o, s0.heap.objs.size ≤ b → s1.heap.get? b = some o → H1 b = none ∧ b ≠ G.L ∧ b ∉ frs G.outer := fun b o hb _ => ⟨I0.hok.fresh hb, Nat.ne_of_gt (Nat.lt_of_lt_of_le I0.lt hb), I0.nofs hb⟩
    refine J1.pins_of fun p hp => ?_
    rcases List.mem_append.mp hp with hp | hp
    · exact J1.pin p (List.mem_append_right _ hp)
    · rcases List.mem_cons.mp hp with rfl | hp
      · obtain ⟨y1, y2, y3⟩ := young a oa (Nat.le_of_lt ha2) hoa
        exact ⟨hoa, y1, y2, y3, hia.nocell⟩
      · rw [List.mem_singleton.mp hp]
        obtain ⟨y1, y2, y3⟩ := young env.locals oL (Nat.le_of_eq hL2.symm) hoL
        exact ⟨hoL, y1, y2, y3, hnc⟩
  have hnew : ∀ p ∈ W.xp ++ ip, p.1 < s0.heap.objs.size := fun p hp => Heap.lt_size (I0.pin p hp).1
  refine loop its2 its W σ H1 H1 s1 [(env.locals, oL)] [] (.fresh c2) p0 Stay.refl R.room R.lt R.xs (fun p hp q hq => ?_) I1 ⟨GO2, hia, by rw [hgens]; exact Array.getElem?_push_size .., fun q hq => (by cases hq), fun q hq => (by cases hq), ?_, slp, fun p hp q hq => ?_, fun q hq => ?_⟩ ?_
  · rcases List.mem_append.mp hp with hp | hp
    · exact R.dis p hp q hq
    · rw [List.mem_singleton.mp hp]
      exact Nat.ne_of_lt (Nat.lt_trans (hnew q (List.mem_append_left _ hq)) ha2)
  · rw [hgens]
    exact ((b0.um R.um).push c2).more fun b hb => by
      simp only [List.map_nil, List.nil_append, List.mem_cons] at hb ⊢
      grind
  · rw [List.mem_singleton.mp hq]
    show p.1 ≠ env.locals
    rw [hL2]
    rcases List.mem_append.mp hp with hp | hp
    · exact Nat.ne_of_lt (hnew p (List.mem_append_left _ hp))
    · rcases List.mem_append.mp hp with hp | hp
      · exact Nat.ne_of_lt (hnew p (List.mem_append_right _ hp))
      · rw [List.mem_singleton.mp hp]; exact Nat.ne_of_gt ha2
  · rw [List.mem_singleton.mp hq]; exact Nat.le_refl _
  · rw [hgens, Array.size_push]
    exact Nat.lt_succ_of_lt (Nat.lt_of_lt_of_le R.gl n0)
end
end K0
end

section
set_option Elab.async false
set_option linter.all false
set_option maxRecDepth 100000
set_option maxHeartbeats 1000000
/-! yield from a generator -/
namespace K0
open PySem PySem.Spec PyProof.Rows L2 GenW
open Sem (wp)

theorem close_gen : typeLookup (.type "generator") "close" = pure (some (.builtin "generator.close")) := by rw [typeLookup_type, builtinLookup_eq_fast]; kernel_rfl
section
variable {M : Model} {A : Around} {Qr : Result → Shared → Prop} {Qy : Value → GenState → Shared → Prop} {c : Code} {fs : List Frame} {s : Shared}
theorem r1_loadIfAlive {a : Addr} {k : Option Obj → Sem PySem.Fin} (h : Run1 M A Qr Qy c (k (s.heap.get? a)) fs s) : Run1 M A Qr Qy c (.loadIfAlive a k) fs s :=
  r1_wrap (m := loadIfAlive a) (K := k) (J := .raise) (gd := id) (lv := id) (fun _ _ _ => h)
theorem r1_bw2 {α β γ : Type} {m : Sem α} {f : α → Sem β} {f2 : β → Sem γ} {K : γ → Sem PySem.Fin} {J : Value → Sem PySem.Fin} {gd : Bool → Bool} {lv : List Value → List Value}
    (h : wpAny M (A.over c fs) m (fun a s' => Run1 M A Qr Qy c ((f a).wrap (fun b => (f2 b).wrap K J gd lv) J gd lv) fs s') (fun x s' => Run1 M A Qr Qy c (J x) fs s') s) : Run1 M A Qr Qy c (((m >>= f) >>= f2).wrap K J gd lv) fs s := by
  rw [Sem.bind_eq_wrap' (m >>= f) f2, Sem.wrap_wrap]
  exact r1_bw h
/-- one more, one less delegator over it -/
theorem slept_gen {M : Model} {A : Around} {E : Value → Shared → Prop} {s : Shared} {a : Addr} {o : Obj} {Q : Unit → Shared → Prop} {more : Bool} {n m : Int} (ho : s.heap.get? a = some o) (hc : o.cls = .type "generator") {vs : Array Value} (hf : o.data = .fields vs)
    (hn : (o.slots = #[] ∧ n = 0) ∨ o.slots = #[some (.int n 0)]) (hm : (if more then n + 1 else n - 1) = m) (h : ∀ h', h'.get? a = some { o with slots := #[some (.int m 0)] } → Heap.SameBut a s.heap h' → Q () { s with heap := h' }) :
    wpAny M A (Builtin.Generator.sleptOver (.ref a) more) Q E s := by
  unfold Builtin.Generator.sleptOver
  refine wpAny_bind (wpAny_load ho ?_)
  rw [hc, if_neg (by decide)]
  have e : (match (o.slots[0]? : Option (Option Value)) with | some (some (Value.int n _)) => n | _ => 0) = n := by
    rcases hn with ⟨e, e2⟩ | e
    · rw [e, e2]; rfl
    · rw [e]; rfl
  have e2 : (o.slots ++ Array.replicate (0 + 1 - o.slots.size) none).setIfInBounds 0 (some (rawInt m)) = #[some (.int m 0)] := by
    rcases hn with ⟨e, _⟩ | e <;> rw [e] <;> rfl
  show wpAny M A (setSlotAt a 0 (some (rawInt (if more = true then (match (o.slots[0]? : Option (Option Value)) with | some (some (Value.int n _)) => n | _ => 0) + 1 else (match (o.slots[0]? : Option (Option Value)) with | some (some (Value.int n _)) => n | _ => 0) - 1)))) Q E s
  rw [e, hm]
  unfold setSlotAt
  rw [if_neg (by decide)]
  refine wpAny_updatePart ho (h _ ?_ (Heap.SameBut.update ..))
  rw [Heap.get?_update_self _ ho (Obj.isFreed_of_fields (vs := vs) (by show o.data = _; exact hf)), e2]
end
section
variable {X : Cx} {pins lx pg : List (Addr × Obj)} {B : List Nat} {a : Addr} {oa : Obj} {N : List Str} {env : Env} {k g : Nat} {its : List Item} {ks : List (Nat × GenState)} {Hr H : Hp} {gs : GenState} {σ : L2.St} {s : Shared}
/-- the next item, by its special method -/
theorem wake_special {A : Around} {Q : Option Value → Shared → Prop} {E : Value → Shared → Prop} (I : Inv X (pins ++ (a, oa) :: pg) σ H s) (h : Held X pins lx B a oa (mkG X N env k g) its pg ks Hr gs s) (st : Stay Hr H) (q : Asks X A lx (mkG X N env k g) H s)
    (hstop : ∀ H' e s', its = [] → Inv X (pins ++ [(a, oa)]) σ H' s' → Ext H H' → Um B s'.gens → StopX e s'.heap → s.gens.size ≤ s'.gens.size → E e s')
    (hitem : ∀ it rest v x pg' ks' H' gs' s', its = it :: rest → Inv X (pins ++ (a, oa) :: pg') σ H' s' → Held X pins lx B a oa (mkG X N env k g) rest pg' ks' H' gs' s' → RelV x v → it x H' → Ext H H' → isS (some gs') = true → s.gens.size ≤ s'.gens.size → Q (some v) s') :
    wpAny (M0 X.prog X.w) A (callSpecial? (.ref a) "__next__") Q E s := by
  have hg : IsG s.heap a g := h.ia.isG (I.pin (a, oa) (List.mem_append_right _ (List.mem_append_right _ List.mem_cons_self))).1
  refine wpAny_gsz (Nat.le_refl s.gens.size) (u_wake q.room.hd I.nolimit q.room.depth hg h.at_ (wk_mono (wake_core I h st q) (fun r s₁ hr => ?_) fun v gs' s₁ hv hb => ?_))
  · obtain ⟨rfl, e, H', I1, ex, um, hl⟩ := hr
    exact ⟨rfl, fun e' h' hk hS hn => hstop H' e' _ e (I1.kept (t' := s₁.toks) hk) ex um hS hn⟩
  · obtain ⟨it, rest, x, pg', ks', H', e, I1, h1, rv, hi, ex, hl, hS⟩ := hv hb
    exact fun hn => hitem it rest v x pg' ks' H' gs' _ e I1 h1 rv hi ex hS hn
end
theorem over_one {A : Around} {c c' : Code} {fs : List Frame} {k : Result → Sem PySem.Fin} {g : Bool} {l kp : List Value} {p : Pos} (hw : c'.weight = 0) (hu : c'.cUnits = 1) :
    A.over c' (.ret k none g l c p kp :: fs) = (A.over c fs).in1 := by
  have e2 : A.depth + frameCount ((Frame.ret k none g l c p kp :: fs).map Frame.where_) + c'.weight = A.depth + frameCount (fs.map Frame.where_) + c.weight := by
    show A.depth + frameCount ((c, p) :: fs.map Frame.where_) + c'.weight = _
    rw [frameCount_cons, hw]; omega
  have e3 : pushEnvs c'.envs (pushEnvs (envsOf ((Frame.ret k none g l c p kp :: fs).map Frame.where_)) A.frames) = pushEnvs c.envs (pushEnvs (envsOf (fs.map Frame.where_)) A.frames) := by
    show pushEnvs c'.envs (pushEnvs (envsOf ((c, p) :: fs.map Frame.where_)) A.frames) = _
    rw [Code.envs_of_weight hw, envsOf_cons]
    simp only [pushEnvs_eq]
    cases A.frames <;> simp [List.append_assoc]
  have e4 : pushGuards c'.guards (pushGuards (guardsOf ((Frame.ret k none g l c p kp :: fs).map Frame.where_)) A.guards) = pushGuards c.guards (pushGuards (guardsOf (fs.map Frame.where_)) A.guards) := by
    show pushGuards c'.guards (pushGuards (guardsOf ((c, p) :: fs.map Frame.where_)) A.guards) = _
    rw [Code.guards_of_weight hw, guardsOf_cons]
    simp only [pushGuards_eq]
    cases A.guards <;> simp [List.append_assoc]
  have e5 : A.units + unitsOf ((Frame.ret k none g l c p kp :: fs).map Frame.where_) + c'.cUnits = A.units + unitsOf (fs.map Frame.where_) + c.cUnits + 1 := by
    show A.units + unitsOf ((c, p) :: fs.map Frame.where_) + c'.cUnits = _
    rw [unitsOf_cons, hu]; omega
  have e1 : (marksOver (Frame.ret k none g l c p kp :: fs) (A.handled, A.handled)).1 = (marksOver fs (A.handled, A.handled)).1 := rfl
  show (⟨(marksOver (Frame.ret k none g l c p kp :: fs) (A.handled, A.handled)).1, A.depth + frameCount ((Frame.ret k none g l c p kp :: fs).map Frame.where_) + c'.weight,
    pushEnvs c'.envs (pushEnvs (envsOf ((Frame.ret k none g l c p kp :: fs).map Frame.where_)) A.frames), pushGuards c'.guards (pushGuards (guardsOf ((Frame.ret k none g l c p kp :: fs).map Frame.where_)) A.guards),
    A.units + unitsOf ((Frame.ret k none g l c p kp :: fs).map Frame.where_) + c'.cUnits⟩ : Around) = _
  rw [e1, e2, e3, e4, e5]
  rfl
abbrev yfC (a : Addr) : Code := .builtin "proto.yield_from" ⟨[.ref a, .bool false, .none], []⟩
theorem yf_yfC {a : Addr} : yfA (yfC a) = some a := by
  unfold yfC yfA
  exact if_pos rfl
theorem den_yfC {X : Cx} {a : Addr} : (M0 X.prog X.w).den (yfC a) = soft a (Builtin.«proto.yield_from» ⟨[.ref a, .bool false, .none], []⟩) := by
  have e : (M0 X.prog X.w).den (yfC a) = soft a ((model X.prog X.w).den (yfC a)) := sfT_some yf_yfC _
  rw [e, den_yf]
end K0
end

section
set_option Elab.async false
set_option linter.all false
set_option maxRecDepth 100000
set_option maxHeartbeats 1000000
/-! yield from a generator -/
namespace K0
open PySem PySem.Spec PyProof.Rows L2 GenW
open Sem (wp)

section
variable {G : GSt} {st : Stmt} {rest : List Stmt} {its : List Item} {H0 H : Hp} {σ : L2.St} {D : GD} {W : WD} {ip : List (Addr × Obj)} {ks : List (Nat × GenState)} {s : Shared}
/-- one pinned object has turned -/
theorem inv_repin {X : Cx} {pins pg : List (Addr × Obj)} {a : Addr} {oa oa' : Obj} {h' : Heap} (I : Inv X (pins ++ (a, oa) :: pg) σ H s) (hn : ∀ v, oa'.data ≠ .cell v) (h1 : a ∈ X.ex ∨ X.s_0.heap.objs.size ≤ a) (hc : ∀ x c, X.env.cells.lookup x = some c → c ≠ a)
    (hne : ∀ p ∈ X.pn ++ (pins ++ pg), p.1 ≠ a) (e : h'.get? a = some oa') (sb : Heap.SameBut a s.heap h') : Inv X (pins ++ (a, oa') :: pg) σ H { s with heap := h' } := by
  obtain ⟨ha, han, haL, haf, _⟩ := I.pin (a, oa) (List.mem_append_right _ (List.mem_append_right _ List.mem_cons_self))
  have I0 : Inv X (pins ++ pg) σ H s := I.pins_of fun p hp => I.pin p (List.mem_append_right _ (by
    rcases List.mem_append.mp hp with z | z
    · exact List.mem_append_left _ z
    · exact List.mem_append_right _ (List.mem_cons_of_mem _ z)))
  have I1 : Inv X (pins ++ pg) σ H { s with heap := h' } := I0.turned (t' := s.toks) (it := a) (fun b o hb eb => (sb.2 b hb).trans eb) han haL h1 hc hne
  refine I1.pins_of fun p hp => ?_
  rcases List.mem_append.mp hp with z | z
  · exact I1.pin p (List.mem_append_right _ (List.mem_append_left _ z))
  · rcases List.mem_cons.mp z with rfl | z
    · exact ⟨e, han, haL, haf, hn⟩
    · exact I1.pin p (List.mem_append_right _ (List.mem_append_right _ z))
theorem isG_obj {o : Obj} {g : Nat} {nm qn : Value} (hc : o.cls = .type "generator") (hd : o.data = .fields #[.int g 0, nm, qn]) : isG (some o) = true := by
  show o.genNumber?.isSome = true
  unfold Obj.genNumber?
  rw [hc, hd]
  rfl
theorem r1_suspend {M : Model} {A : Around} {Qr : Result → Shared → Prop} {Qy : Value → GenState → Shared → Prop} {c : Code} {fs : List Frame} {s : Shared} {a : Addr} {v : Value} {g : Bool} {K : Resume → Sem PySem.Fin} (hG : isG (s.heap.get? a) = true) (hsp : splitAtGen fs = none) (hgd : fs.any Frame.guarded = false)
    (h : ∀ p l', Qy v (.suspended (fun x => soft a (K x)) l' c p fs false) s) : Run1 M A Qr Qy c (soft a (suspend v g >>= K)) fs s := by
  show Run1 M A Qr Qy c (.loadIfAlive a fun oo => .yield v (g && !isG oo) (if (g && isG oo) = true then [mk] else []) fun x => soft a (K x)) fs s
  exact r1_loadIfAlive (r1_yield hsp (by rw [hG]; simp) hgd h)
/-- yield from f(e, ..), f a generator def -/
theorem gs_yieldFrom {f : Addr} {x : Str} {p pos yp : Pos} {e : Expr} {es : List Expr} {t : TA} {k : Nat} {fd : FuncData} {ps : List Str} {sp : SpI} {dvs : List V} {ds : List Value} {pos' : Pos} (F : GF G.prog G.w G.K G.mg G.base k f fd ps sp)
    (hkk : k + 3 ≤ G.k) (hg : ∀ W, Gl (gX G W) x) (hm : G.mg x = some (.ref f)) (hkp : PySem.W.keepIn G.K (.ref f) = true) (hb : Binds G.K fd ps ds) (hd : Vals dvs ds) (ha : ∀ W, Room (G.k + 1) W.A → PA (gX G W) (e :: es) t)
    (q : t σ H fun vs H1 => ∃ its2, sp (vs ++ dvs) H1 its2 ∧ ∃ Pv : List Item → List Item → Hp → L2.St → Hp → Prop, Pv its2 its H0 σ H1 ∧ (∀ its H0 σ H H', Pv [] its H0 σ H → Ext H H' → D.nx its H0 σ H') ∧
      ∀ it rest its H0 σ H x H', Pv (it :: rest) its H0 σ H → Ext H H' → it x H' → ∃ it' its', its = it' :: its' ∧ Ext H0 H' ∧ it' x H' ∧ ∀ H2, Stay H' H2 → Pv rest its' H2 σ H2)
    (hi : interactive G.env = false := by rfl)
    (hdb : (x == ("__debug__" : Str)) = false := by decide) (he : starEach (e :: es) G.env = (false, eval e G.env) :: starEach es G.env := by rfl) (hpl : (backTo pos (starEach es G.env)).any (·.1) = false := by rfl) :
    GStm G false (.Expr (.YieldFrom (.Call (.Name x p) (e :: es) [] pos) yp) pos') its H0 σ H D := by
  intro W ip ks c fs K J gd lv s hW hk gc kont R
  subst hW
  have hks := hk rfl
  subst hks
  have rX : ∀ {W : WD}, Room (G.k + 1) W.A → Room (k + 3) (gX G W).A := fun r => (r.deeper G.env).mono hkk
  rw [exec_Expr G.env _ pos' hi rfl]
  show Run1 _ _ _ _ c (.at pos' fun _ => ((eval (.Call (.Name x p) (e :: es) [] pos) G.env >>= fun v => (standAt yp >>= fun _ => yieldFrom G.env v)) >>= fun x => dropValue _ pos' x).wrap K J gd lv) fs s
  refine r1_at (r1_bw2 ?_)
  rw [gc.over]
  refine wpAny_mono (E := fun _ _ => False) (u_callG (X := gX G W) rfl R.inv F ((rX R.room).mono (by omega)) (hg W) hm hkp hb hd (ha W R.room) q (fun u its2 H1 s0 t0 s1 b0 n0 I0 hR made => ?_) hdb he hpl) (fun _ _ x => x) fun _ _ x => x.elim
  obtain ⟨Pv, p0, pstop, pstep⟩ := hR
  obtain ⟨a, oa, oL, c2, N, env, rfl, GO2, hL2, ha2, hos, hgens, hkeep, hoa, hia, hoL, hnc, slp⟩ := made
  have hia' : IsG s1.heap a s0.gens.size := hia.isG hoa
  refine r1_at ?_
  show Run1 _ _ _ _ c ((yieldFrom G.env (.ref a)).wrap (fun b => (dropValue _ pos' b).wrap K J gd lv) J gd lv) fs s1
  unfold yieldFrom
  refine r1_bw (wpAny_typeOf (T := "generator") hia'.typeIs ?_)
  rw [if_neg (by decide)]
  refine r1_bw (wpAny_holding (u_iter hia' ?_))
  refine r1_call fun pp => ?_
  have hGL : G.L < env.locals := by
    rw [hL2]; exact I0.lt
  generalize hfr : Frame.ret _ none (gd false) _ c pp [] = fr
  have hov : ∀ A : Around, A.over (yfC a) (fr :: fs) = (A.deeper G.env).in1 := fun A => by
    rw [← hfr, over_one (plainId_weight plain_yf _) (plainId_units plain_yf _), gc.over]
  have hsp : splitAtGen (fr :: fs) = none := by
    rw [← hfr]
    show (splitAtGen fs).map _ = none
    rw [gc.split]; rfl
  have hgd : (fr :: fs).any Frame.guarded = false := by
    rw [← hfr]
    show (gd false || fs.any Frame.guarded) = false
    rw [gc.gd, gc.guard]; rfl
  have leave : ∀ {its' : List Item} {W' : WD} {s' : Shared}, GP G ip [] D its' W' .next s' → R1 G W' its' (yfC a) (leafOf (.ok (.ret .none))) (fr :: fs) s' := fun {its' W' s'} q => by
    rw [← hfr]
    exact r1_leaf (.ok (.ret .none)) (kont its' W' .next s' q)
  have hipa : ∀ p ∈ ip, p.1 ≠ a := fun p hp => Nat.ne_of_lt (Nat.lt_trans (Heap.lt_size (I0.pin p (List.mem_append_right _ hp)).1) ha2)
  have loop : ∀ (rest : List Item) (its : List Item) (W : WD) (Hr H : Hp) (s : Shared) (oa : Obj) (pg : List (Addr × Obj)) (ks : List (Nat × GenState)) (gs : GenState), Pv rest its W.H σ H → Stay Hr H → Room (G.k + 1) W.A → G.L < W.s.heap.objs.size → (∀ p ∈ W.xp, W.s.heap.get? p.1 = some p.2) →
      (∀ p ∈ ip, ∀ q ∈ W.xp, q.1 ≠ p.1) → (∀ q ∈ W.xp, q.1 ≠ a) → Inv (gX G W) (ip ++ (a, oa) :: pg) σ H s → Held (gX G W) ip [] (G.g :: W.B) a oa (mkG (gX G W) N env k s0.gens.size) rest pg ks Hr gs s → G.g < s.gens.size →
      R1 G W its (yfC a) ((M0 G.prog G.w).den (yfC a)) (fr :: fs) s := by
    intro rest
    induction rest with
    | nil =>
      intro its W Hr H s oa pg ks gs pv st room lt xs dis dis2 I h glt
      have asks : Asks (gX G W) (gX G W).A.in1 [] (mkG (gX G W) N env k s0.gens.size) H s := ⟨(rX room).in1.in1, I.ok.frames, fun p hp => (by cases hp), .inl hGL, fun x c e => (by rw [R.ok.cells] at e; cases e), fun b hb _ _ => .inr (Nat.le_trans cut_size (Nat.le_trans (Nat.le_of_lt hGL) hb))⟩
      show Run1 _ _ _ _ _ ((M0 (gX G W).prog (gX G W).w).den (yfC a)) _ _
      rw [den_yfC]
      unfold Builtin.«proto.yield_from»
      try dsimp only
      refine r1_sbind (wpAny_pure ?_)
      try dsimp only
      refine r1_sbind (wpAny_attempt (wpAny_holding ?_))
      rw [if_neg Bool.false_ne_true, if_pos (show (Value.none == Value.none) = true from rfl), hov]
      refine wpAny_bind (wpAny_rule (wpAny_bind ?_))
      refine wake_special I h st asks (fun H' ex s' _ I' e2 um hS hn => ?_) fun it rest v x pg' ks' H' gs' s' e => by cases e
      obtain ⟨b, o, vs, rfl, hob, hcls, hdat, h5⟩ := hS
      try dsimp only
      refine r1_sbind (wpAny_endsTurn hob hcls ?_)
      try dsimp only
      rw [if_pos rfl]
      rw [if_neg Bool.false_ne_true]
      refine r1_sbind (wpAny_rule (r1_sbind (wpAny_field hob hdat h5 ?_)))
      refine leave ⟨σ, H', ⟨R.ok, room, lt, I'.pins_of fun p hp => I'.pin p (List.mem_append_right _ (List.mem_append_left _ hp)), fun q hq => (by cases hq), fun q hq => (by cases hq), um, Nat.lt_of_lt_of_le glt hn, xs, dis, R.lo⟩, pstop _ _ _ _ _ pv e2⟩
    | cons it rest ih =>
      intro its W Hr H s oa pg ks gs pv st room lt xs dis dis2 I h glt
      have asks : Asks (gX G W) (gX G W).A.in1 [] (mkG (gX G W) N env k s0.gens.size) H s := ⟨(rX room).in1.in1, I.ok.frames, fun p hp => (by cases hp), .inl hGL, fun x c e => (by rw [R.ok.cells] at e; cases e), fun b hb _ _ => .inr (Nat.le_trans cut_size (Nat.le_trans (Nat.le_of_lt hGL) hb))⟩
      show Run1 _ _ _ _ _ ((M0 (gX G W).prog (gX G W).w).den (yfC a)) _ _
      rw [den_yfC]
      unfold Builtin.«proto.yield_from»
      try dsimp only
      refine r1_sbind (wpAny_pure ?_)
      try dsimp only
      refine r1_sbind (wpAny_attempt (wpAny_holding ?_))
      rw [if_neg Bool.false_ne_true, if_pos (show (Value.none == Value.none) = true from rfl), hov]
      refine wpAny_bind (wpAny_rule (wpAny_bind ?_))
      refine wake_special I h st asks (fun H' ex s' e => by cases e) fun it' rest' v x pg' ks' H' gs' s' e I' h' rv hit ex hS hn => ?_
      cases e
      obtain ⟨hoa1, han, haL, haf, hanc⟩ := I'.pin (a, oa) (List.mem_append_right _ (List.mem_append_right _ List.mem_cons_self))
      have hoa1 : s'.heap.get? a = some oa := hoa1
      obtain ⟨nm, qn, hac, had, hasl⟩ := h'.ia
      refine wpAny_pure ?_
      try dsimp only
      refine r1_sbind (wpAny_typeOf (T := "generator") ⟨oa, hoa1, hac⟩ ?_)
      try dsimp only
      first
        | (refine r1_sbind (wpAny_of_eq close_gen ?_); refine r1_sbind (wpAny_pure ?_))
        | refine r1_sbind (wpAny_bind (wpAny_of_eq close_gen (wpAny_pure ?_)))
        | refine r1_sbind (wpAny_of_eq close_gen ?_)
      try dsimp only
      refine r1_sbind (slept_gen (n := 0) (m := 1) hoa1 hac had (hasl.imp (fun z => ⟨z, rfl⟩) fun z => z) rfl fun h1 e1 sb1 => ?_)
      obtain ⟨it', its', e3, e4, hit', pv'⟩ := pstep _ _ _ _ _ _ _ _ pv ex hit
      subst e3
      have gg : G.g < s0.gens.size := Nat.lt_of_lt_of_le R.gl n0
      have hsep : ∀ p ∈ W.xp ++ (ip ++ [(a, oa)]), ∀ q ∈ pg', p.1 ≠ q.1 := h'.sep
      have hLa : G.L ≤ a := Nat.le_of_lt (Nat.lt_trans (by rw [hL2] at hGL; exact hGL) ha2)
      have nec : ∀ {W : WD} x c, (gX G W).env.cells.lookup x = some c → c ≠ a := fun {W} x c e => by
        have e : G.env.cells.lookup x = some c := e
        rw [R.ok.cells] at e; cases e
      have hpga : ∀ p ∈ pg', p.1 ≠ a := fun p hp z => hsep (a, oa) (List.mem_append_right _ (List.mem_append_right _ List.mem_cons_self)) p hp z.symm
      have nea : ∀ {W' : WD}, (∀ q ∈ W'.xp, q.1 ≠ a) → ∀ p ∈ (gX G W').pn ++ (ip ++ pg'), p.1 ≠ a := fun {W'} hx p hp => by
        rcases List.mem_append.mp hp with z | z
        · exact hx p z
        · rcases List.mem_append.mp z with z | z
          · exact hipa p z
          · exact hpga p z
      have kp2 : Kp ((s0.gens.size, gs') :: ks') s'.gens := fun q hq => by
        rcases List.mem_cons.mp hq with rfl | hq
        · exact ⟨h'.at_, hS⟩
        · exact h'.kp q hq
      have um2 : Um (G.g :: (((s0.gens.size, gs') :: ks').map (·.1) ++ W.B)) s'.gens := h'.um.more fun b hb => by
        simp only [List.map_cons, List.cons_append, List.mem_cons, List.mem_append] at hb ⊢
        grind
      have R2 : RI G W (ip ++ (a, { oa with slots := #[some (.int 1 0)] }) :: pg') ((s0.gens.size, gs') :: ks') σ H' { s' with heap := h1 } := by
        refine ⟨R.ok, room, lt, inv_repin I' (fun v z => hanc v z) (.inr (Nat.le_trans cut_size hLa)) nec (nea dis2) e1 sb1, kp2, fun q hq => ?_, um2, Nat.lt_of_lt_of_le glt hn, xs, fun p hp q hq => ?_, fun p hp => ?_⟩
        · rcases List.mem_cons.mp hq with rfl | hq
          · exact gg
          · exact Nat.lt_trans gg (h'.ne q hq)
        · rcases List.mem_append.mp hp with hp | hp
          · exact dis p hp q hq
          · rcases List.mem_cons.mp hp with rfl | hp
            · exact dis2 q hq
            · exact hsep q (List.mem_append_left _ hq) p hp
        · rcases List.mem_append.mp hp with hp | hp
          · exact R.lo p hp
          · rcases List.mem_cons.mp hp with rfl | hp
            · exact hLa
            · exact Nat.le_trans (Nat.le_of_lt hGL) (h'.lo p hp)
      refine r1_suspend (by rw [e1]; exact isG_obj (g := s0.gens.size) hac had) hsp hgd fun p' l' => ?_
      obtain ⟨oF, hF, hFd⟩ := R2.frame
      refine ⟨x, (G.L, oF) :: (ip ++ (a, { oa with slots := #[some (.int 1 0)] }) :: pg'), (s0.gens.size, gs') :: ks', H', R2.after e4 hF hFd, rv, hit', ?_, rfl⟩
      refine sleep_iff.mpr fun W2 w2 => ?_
      have R3 := R2.woken hF w2
      show Run1 _ _ _ _ (yfC a) (soft a (Builtin.Generator.sleptOver (.ref a) false >>= fun _ => _)) (fr :: fs) W2.s
      obtain ⟨ha3, _⟩ := R3.inv.pin (a, { oa with slots := #[some (.int 1 0)] }) (List.mem_append_right _ (List.mem_append_right _ List.mem_cons_self))
      have ha3 : W2.s.heap.get? a = some { oa with slots := #[some (.int 1 0)] } := ha3
      refine r1_sbind (slept_gen (n := 1) (m := 0) ha3 hac had (.inr rfl) rfl fun h2 e2 sb2 => ?_)
      try dsimp only
      refine r1_sbind (wpAny_pure ?_)
      have dis3 : ∀ q ∈ W2.xp, q.1 ≠ a := fun q hq => R3.dis (a, { oa with slots := #[some (.int 1 0)] }) (List.mem_append_right _ List.mem_cons_self) q hq
      have I4 := inv_repin R3.inv (oa' := { oa with slots := #[some (.int 0 0)] }) (fun v z => hanc v z) (.inr (Nat.le_trans cut_size hLa)) nec (nea dis3) e2 sb2
      refine r1_again (plainId_quiet plain_yf _) (ih its' W2 H' W2.H _ _ pg' ks' gs' (pv' W2.H w2.stay) w2.stay R3.room R3.lt R3.xs (fun p hp => R3.dis p (List.mem_append_left _ hp)) dis3 I4
        ⟨h'.ok, ⟨nm, qn, hac, had, .inr rfl⟩, (R3.kp (s0.gens.size, gs') List.mem_cons_self).1, fun q hq => R3.kp q (List.mem_cons_of_mem _ hq), h'.ne, R3.um.more fun b hb => ?_, h'.slp, fun p hp q hq => ?_, h'.lo⟩ R3.gl)
      · simp only [List.map_cons, List.cons_append, List.mem_cons, List.mem_append] at hb ⊢
        grind
      · rcases List.mem_append.mp hp with hp | hp
        · exact R3.dis q (List.mem_append_right _ (List.mem_cons_of_mem _ hq)) p hp
        · rcases List.mem_append.mp hp with hp | hp
          · exact hsep p (List.mem_append_right _ (List.mem_append_left _ hp)) q hq
          · rw [List.mem_singleton.mp hp]
            exact fun z => hpga q hq z.symm
  have I1 : Inv (gX G W) (ip ++ (a, oa) :: [(env.locals, oL)]) σ H1 s1 := by
    have J1 : Inv (gX G W) ip σ H1 s1 := I0.call' (ch := []) hos (Un.kept hkeep) (I0.hok.kept hkeep) (by rw [hgens]; exact AllBare.push I0.bare rfl) fun b hb => by simp at hb
    have young : ∀ b o, s0.heap.objs.size ≤ b → s1.heap.get? b = some o → H1 b = none ∧ b ≠ G.L ∧ b ∉ frs G.outer := fun b o hb _ => ⟨I0.hok.fresh hb, Nat.ne_of_gt (Nat.lt_of_lt_of_le I0.lt hb), I0.nofs hb⟩
    refine J1.pins_of fun p hp => ?_
    rcases List.mem_append.mp hp with hp | hp
    · exact J1.pin p (List.mem_append_right _ hp)
    · rcases List.mem_cons.mp hp with rfl | hp
      · obtain ⟨y1, y2, y3⟩ := young a oa (Nat.le_of_lt ha2) hoa
        exact ⟨hoa, y1, y2, y3, hia.nocell⟩
      · rw [List.mem_singleton.mp hp]
        obtain ⟨y1, y2, y3⟩ := young env.locals oL (Nat.le_of_eq hL2.symm) hoL
        exact ⟨hoL, y1, y2, y3, hnc⟩
  have hnew : ∀ p ∈ W.xp ++ ip, p.1 < s0.heap.objs.size := fun p hp => Heap.lt_size (I0.pin p hp).1
  refine loop its2 its W H1 H1 s1 oa [(env.locals, oL)] [] (.fresh c2) p0 Stay.refl R.room R.lt R.xs R.dis (fun q hq => Nat.ne_of_lt (Nat.lt_trans (hnew q (List.mem_append_left _ hq)) ha2)) I1
    ⟨GO2, hia, by rw [hgens]; exact Array.getElem?_push_size .., fun q hq => (by cases hq), fun q hq => (by cases hq), ?_, slp, fun p hp q hq => ?_, fun q hq => ?_⟩ ?_
  · rw [hgens]
    exact ((b0.um R.um).push c2).more fun b hb => by
      simp only [List.map_nil, List.nil_append, List.mem_cons] at hb ⊢
      grind
  · rw [List.mem_singleton.mp hq]
    show p.1 ≠ env.locals
    rw [hL2]
    rcases List.mem_append.mp hp with hp | hp
    · exact Nat.ne_of_lt (hnew p (List.mem_append_left _ hp))
    · rcases List.mem_append.mp hp with hp | hp
      · exact Nat.ne_of_lt (hnew p (List.mem_append_right _ hp))
      · rw [List.mem_singleton.mp hp]; exact Nat.ne_of_gt ha2
  · rw [List.mem_singleton.mp hq]; exact Nat.le_refl _
  · rw [hgens, Array.size_push]
    exact Nat.lt_succ_of_lt (Nat.lt_of_lt_of_le R.gl n0)
end
end K0
end

section
set_option Elab.async false
set_option linter.all false
set_option maxRecDepth 100000
set_option maxHeartbeats 1000000
/-! defs over the softened model: statements and expressions at a state -/
namespace K0
open PySem PySem.Spec PyProof.Rows L2 GenW
open Sem (wp)

def E0P (X : Cx) (pins : List (Addr × Obj)) (σ : L2.St) (Q : VK) (u : Value) (s' : Shared) : Prop := EP X pins σ Q u s' ∧ Um [] s'.gens
def E0 (X : Cx) (e : Expr) (σ : L2.St) (H : Hp) (Q : VK) : Prop := ∀ (pins : List (Addr × Obj)) (s : Shared), Inv X pins σ H s → Um [] s.gens → wpAny (M0 X.prog X.w) X.A (eval e X.env) (E0P X pins σ Q) (fun _ _ => False) s
def T0 (X : Cx) (e : Expr) (σ : L2.St) (H : Hp) (Q : Bool → Hp → Prop) : Prop := ∀ (whole : Sem Value) (pins : List (Addr × Obj)) (s : Shared), whole = eval e X.env → Inv X pins σ H s → Um [] s.gens →
  wpAny (M0 X.prog X.w) X.A (isTrue e X.env whole) (fun b s' => TP X pins σ Q b s' ∧ Um [] s'.gens) (fun _ _ => False) s
/-- a test whatever its whole is -/
def T0W (X : Cx) (e : Expr) (σ : L2.St) (H : Hp) (Q : Bool → Hp → Prop) : Prop := ∀ (whole : Sem Value) (pins : List (Addr × Obj)) (s : Shared), Inv X pins σ H s → Um [] s.gens →
  wpAny (M0 X.prog X.w) X.A (isTrue e X.env whole) (fun b s' => TP X pins σ Q b s' ∧ Um [] s'.gens) (fun _ _ => False) s
def S0 (X : Cx) (st : Stmt) (σ : L2.St) (H : Hp) (D : Ends) : Prop := ∀ (pins : List (Addr × Obj)) (s : Shared), Inv X pins σ H s → Um [] s.gens → wpAny (M0 X.prog X.w) X.A (exec st X.env) (fun f s' => SP X pins D f s' ∧ Um [] s'.gens) (fun _ _ => False) s
def S0s (X : Cx) (st : List Stmt) (σ : L2.St) (H : Hp) (D : Ends) : Prop := ∀ (pins : List (Addr × Obj)) (s : Shared), Inv X pins σ H s → Um [] s.gens → wpAny (M0 X.prog X.w) X.A (execs st X.env) (fun f s' => SP X pins D f s' ∧ Um [] s'.gens) (fun _ _ => False) s

section
variable {X : Cx} {st : Stmt} {rest : List Stmt} {σ : L2.St} {H : Hp} {D : Ends} {Q : VK} {pos : Pos}
theorem SP.moved {pins : List (Addr × Obj)} {f : Flow} {s s₁ s' : Shared} (b : Back s s₁ s') (hb : AllBare s.gens) (h : SP X pins D f s₁) : SP X pins D f s' := by
  cases f with
  | next => obtain ⟨σ', H', I', q⟩ := h; exact ⟨σ', H', inv_back b hb I', q⟩
  | brk => obtain ⟨σ', H', I', q⟩ := h; exact ⟨σ', H', inv_back b hb I', q⟩
  | cont => obtain ⟨σ', H', I', q⟩ := h; exact ⟨σ', H', inv_back b hb I', q⟩
  | ret u => obtain ⟨v, σ', H', I', r, q⟩ := h; exact ⟨v, σ', H', inv_back b hb I', r, q⟩
theorem e0_pe (hx : X.xe = fun _ _ => False) {e : Expr} {te : TE} (h : PE X e te) (q : te σ H Q) : E0 X e σ H Q := by
  intro pins s I u
  have h1 := h.run pins (psn s) σ H Q (inv_psn I) q
  rw [hx] at h1
  exact wpAny_mono (up_run (Nat.le_refl _) h1) (fun v s' ⟨s₁, b, _, v', H', I', r, q⟩ => ⟨⟨v', H', inv_back b I.bare I', r, q⟩, b.um u⟩) fun _ _ x => x
theorem t0_pt (hx : X.xe = fun _ _ => False) {e : Expr} {te : TT} {Q : Bool → Hp → Prop} (h : PT X e te) (q : te σ H Q) : T0 X e σ H Q := by
  intro whole pins s hw I u
  subst hw
  have h1 := h.run pins (psn s) σ H Q (inv_psn I) q
  rw [hx] at h1
  exact wpAny_mono (up_run (Nat.le_refl _) h1) (fun v s' ⟨s₁, b, _, H', I', q⟩ => ⟨⟨H', inv_back b I.bare I', q⟩, b.um u⟩) fun _ _ x => x
theorem s0_ps (hx : X.xe = fun _ _ => False) {t : TS} (h : PS X st t) (q : t D σ H) : S0 X st σ H D := by
  intro pins s I u
  have h1 := h.run pins (psn s) σ H D (inv_psn I) q
  rw [hx] at h1
  exact wpAny_mono (up_run (Nat.le_refl _) h1) (fun f s' ⟨s₁, b, _, p⟩ => ⟨SP.moved b I.bare p, b.um u⟩) fun _ _ x => x
theorem s0s_pss (hx : X.xe = fun _ _ => False) {t : TS} (h : PSs X rest t) (q : t D σ H) : S0s X rest σ H D := by
  intro pins s I u
  have h1 := h.run pins (psn s) σ H D (inv_psn I) q
  rw [hx] at h1
  exact wpAny_mono (up_run (Nat.le_refl _) h1) (fun f s' ⟨s₁, b, _, p⟩ => ⟨SP.moved b I.bare p, b.um u⟩) fun _ _ x => x
theorem s0s_nil (q : D.nx σ H) : S0s X [] σ H D := fun pins s I u => wpAny_execs_nil ⟨⟨σ, H, I, q⟩, u⟩
theorem s0s_cons (h : S0 X st σ H { D with nx := fun σ' H' => S0s X rest σ' H' D }) : S0s X (st :: rest) σ H D := by
  intro pins s I u
  refine wpAny_execs_cons (thn (h pins s I u) fun f s1 ⟨q, u1⟩ => ?_)
  cases f with
  | next => obtain ⟨σ', H', I', q⟩ := q; exact q pins s1 I' u1
  | ret v => exact ⟨q, u1⟩
  | brk => exact ⟨q, u1⟩
  | cont => exact ⟨q, u1⟩
theorem s0_imp {D' : Ends} (h : S0 X st σ H D) (h1 : ∀ σ H, D.nx σ H → D'.nx σ H) (h2 : ∀ v H, D.rt v H → D'.rt v H) (h3 : ∀ σ H, D.bk σ H → D'.bk σ H) (h4 : ∀ σ H, D.ct σ H → D'.ct σ H) : S0 X st σ H D' := by
  intro pins s I u
  refine thn (h pins s I u) fun f s1 ⟨q, u1⟩ => ⟨?_, u1⟩
  cases f with
  | next => obtain ⟨σ', H', I', q⟩ := q; exact ⟨σ', H', I', h1 _ _ q⟩
  | ret v => obtain ⟨v', σ', H', I', r, q⟩ := q; exact ⟨v', σ', H', I', r, h2 _ _ q⟩
  | brk => obtain ⟨σ', H', I', q⟩ := q; exact ⟨σ', H', I', h3 _ _ q⟩
  | cont => obtain ⟨σ', H', I', q⟩ := q; exact ⟨σ', H', I', h4 _ _ q⟩
theorem s0s_one (h : S0 X st σ H D) : S0s X [st] σ H D := s0s_cons (s0_imp h (fun _ _ q => s0s_nil q) (fun _ _ q => q) (fun _ _ q => q) fun _ _ q => q)
theorem s0_ret {e : Expr} (h : E0 X e σ H D.rt) : S0 X (.Return (some e) pos) σ H D := fun pins s I u =>
  wpAny_Return_some (thn (h pins s I u) fun v s1 ⟨⟨x, H1, I1, r1, q1⟩, u1⟩ => ⟨⟨x, σ, H1, I1, r1, q1⟩, u1⟩)
theorem s0_if {c : Expr} {a b : List Stmt} (h : T0 X c σ H fun x H1 => if x = true then S0s X a σ H1 D else S0s X b σ H1 D) : S0 X (.If c a b pos) σ H D := by
  intro pins s I u
  refine wpAny_If (thn (h _ pins s rfl I u) fun d s1 ⟨⟨H1, I1, q1⟩, u1⟩ => ?_)
  cases d with
  | true => exact q1 pins s1 I1 u1
  | false => exact q1 pins s1 I1 u1
theorem t0_w {e : Expr} {Q : Bool → Hp → Prop} (h : T0W X e σ H Q) : T0 X e σ H Q := fun whole pins s _ I u => h whole pins s I u
theorem t0_not {a : Expr} {Q : Bool → Hp → Prop} (h : T0 X a σ H fun b H1 => Q (!b) H1) : T0 X (.UnaryOp .Not a pos) σ H Q := fun whole pins s _ I u =>
  isTrue_not (thn (h _ pins s rfl I u) fun _ _ q => q)
theorem t0_or {a b : Expr} {rest : List Expr} {Q : Bool → Hp → Prop} (h : T0 X a σ H fun c H1 => if c = true then Q true H1 else T0W X (.BoolOp .Or (b :: rest) pos) σ H1 Q) : T0W X (.BoolOp .Or (a :: b :: rest) pos) σ H Q := by
  intro wh pins s I u
  refine isTrue_or (thn (h _ pins s rfl I u) fun c s1 ⟨⟨H1, I1, q1⟩, u1⟩ => ?_)
  cases c with
  | true => exact ⟨⟨H1, I1, q1⟩, u1⟩
  | false => exact q1 wh pins s1 I1 u1
theorem t0_or1 {a : Expr} {Q : Bool → Hp → Prop} (h : T0 X a σ H Q) : T0W X (.BoolOp .Or [a] pos) σ H Q := by
  intro wh pins s I u
  refine isTrue_or (thn (h _ pins s rfl I u) fun c s1 e => ?_)
  cases c with
  | false => exact isTrue_or_nil e
  | true => exact e
/-- an expression whose value is a bool, as a test -/
theorem t0_val {e : Expr} {Q : Bool → Hp → Prop} (h : E0 X e σ H fun v H1 => ∃ b, v = .bl b ∧ Q b H1) (he : ∀ whole, isTrue e X.env whole = (do let v ← whole; standAt e.pos; holding [v] (truthy v)) := by intro _; rfl) : T0 X e σ H Q := by
  intro whole pins s hw I u
  subst hw
  refine isTrue_plain (thn (h pins s I u) fun v s1 ⟨⟨x, H1, I1, r1, q1⟩, u1⟩ => ?_) (he _)
  obtain ⟨d, rfl, q⟩ := q1
  cases r1
  exact wpAny_truthy_bool ⟨⟨H1, I1, q⟩, u1⟩
theorem e0_one {op} {a : Expr} (h : E0 X a σ H Q) : E0 X (.BoolOp op [a] pos) σ H Q := fun pins s I u => BoolOp_one (h pins s I u)
theorem e0_and {a b : Expr} {rest : List Expr} (h : E0 X a σ H fun x H1 => ∃ c, x = .bl c ∧ if c = true then E0 X (.BoolOp .And (b :: rest) pos) σ H1 Q else Q (.bl false) H1) : E0 X (.BoolOp .And (a :: b :: rest) pos) σ H Q := by
  intro pins s I u
  refine BoolOp_and (thn (h pins s I u) fun v s1 ⟨⟨x, H1, I1, r1, q1⟩, u1⟩ => ?_)
  obtain ⟨c, rfl, q1⟩ := q1
  cases r1
  refine wpAny_truthy_bool ?_
  cases c with
  | true => exact q1 pins s1 I1 u1
  | false => exact ⟨⟨.bl false, H1, I1, rfl, q1⟩, u1⟩
theorem u_store {pins : List (Addr × Obj)} {s : Shared} {i : Nat} {x : Str} {v : V} {u : Value} {A : Around} {B : List Nat} (I : Inv X pins σ H s) (um : Um B s.gens) (hN : X.N.Nodup) (hi : X.N[i]? = some x) (hl : Loc X.env.scope x) (r : RelV v u) (hf : X.fn x = true ∨ X.env.scope.names.lookup x = some .local) :
    wpAny (M0 X.prog X.w) A (storeName X.env x u) (fun _ s2 => Inv X pins (σ.set i (some v)) H s2 ∧ Um B s2.gens) (fun _ _ => False) s :=
  wpAny_mono (up_run (Nat.le_refl _) (store_ok (M := model X.prog X.w) (A := A) (E := fun _ _ => False) (Q := fun _ s2 => Inv X pins (σ.set i (some v)) H s2) (inv_psn I) hN hi hl r (fun s2 I2 => I2) hf)) (fun _ s2 ⟨s₁, b, _, I2⟩ => ⟨inv_back b I.bare I2, b.um um⟩) fun _ _ x => x
/-- name = e -/
theorem s0_set {i : Nat} {x : Str} {e : Expr} {pos' : Pos} (hN : X.N.Nodup) (hi : X.N[i]? = some x) (hl : Loc X.env.scope x) (h : E0 X e σ H fun v H1 => D.nx (σ.set i (some v)) H1) (hs : swapsWith e (some (.Name x pos')) pos.line X.env = pure false := by rfl)
    (hf : X.fn x = true ∨ X.env.scope.names.lookup x = some .local := by first | exact .inl rfl | exact .inr rfl | assumption) : S0 X (.Assign [.Name x pos'] e pos) σ H D := by
  intro pins s I u
  refine wpAny_Assign_Name (thn (h pins s I u) fun v s1 ⟨⟨y, H1, I1, r1, q1⟩, u1⟩ => ?_) hs
  exact wpAny_mono (u_store I1 u1 hN hi hl r1 hf) (fun _ s2 ⟨I2, u2⟩ => ⟨⟨_, H1, I2, q1⟩, u2⟩) fun _ _ x => x
/-- a, b = e, e' with plain local names -/
theorem s0_par {i j : Nat} {x y : Str} {a b : Expr} {px py pt : Pos} {kt k2 pt2} (hc : X.calm = true) (hN : X.N.Nodup) (hi : X.N[i]? = some x) (hj : X.N[j]? = some y) (hij : i ≠ j) (hx : X.env.scope.names.lookup x = some .local) (hy : X.env.scope.names.lookup y = some .local)
    (h : E0 X a σ H fun v H1 => E0 X b σ H1 fun w H2 => D.nx ((σ.set i (some v)).set j (some w)) H2)
    (hw : swappedStores [.Tuple [.Name x px, .Name y py] kt pt] (.Tuple [a, b] k2 pt2) X.env = pure (some [x, y]))
    (hs : swapsWithSole [.Tuple [.Name x px, .Name y py] kt pt] (.Tuple [a, b] k2 pt2) pos.line X.env = pure false := by rfl)
    (hst : starEach [a, b] X.env = [(false, eval a X.env), (false, eval b X.env)] := by rfl) :
    S0 X (.Assign [.Tuple [.Name x px, .Name y py] kt pt] (.Tuple [a, b] k2 pt2) pos) σ H D := by
  intro pins s I u
  rw [exec_Assign_arm]
  refine wpAny_bind (wpAny_standAt ?_)
  rw [hs]
  refine wpAny_bind (wpAny_pure ?_)
  rw [if_neg (by decide)]
  refine wpAny_bind (Tuple_ ?_)
  rw [hst]
  refine Calls.spliced_cons (thn (h pins s I u) fun u1 s1 ⟨⟨v, H1, I1, rv, q1⟩, um1⟩ => ?_)
  refine Calls.spliced_cons (thn (q1 pins s1 I1 um1) fun u2 s2 ⟨⟨w, H2, I2, rw', q2⟩, um2⟩ => ?_)
  refine Calls.spliced_nil ?_
  refine wpAny_newObj_type ?_ (by show 2 ≤ sizeLine; decide)
  have I3 : Inv X pins σ H2 { s2 with heap := s2.heap.push { cls := .type "tuple", data := .seq [u1, u2].toArray } } := I2.kept (t' := s2.toks) fun b o e => Heap.get?_push_of_some _ e
  have um3 : Um [] ({ s2 with heap := s2.heap.push { cls := .type "tuple", data := .seq [u1, u2].toArray } } : Shared).gens := um2
  rw [hw]
  refine wpAny_bind (wpAny_pure ?_)
  show wpAny (M0 X.prog X.w) X.A (do rule "assign.swapped-stores"; let items ← unpackItems (.ref s2.heap.objs.size) 2 none; assignInOrder [fun v => bindName X.env y v, fun v => bindName X.env x v] items.reverse; pure Flow.next) _ _ _
  have hr := wpAny_mono (up_run (M := model X.prog X.w) (A := X.A) (Nat.le_refl _) (unpackItems_tuple (prog := X.prog) (w := X.w) (A := X.A) (E := fun _ _ => False) (s := psn { s2 with heap := s2.heap.push { cls := .type "tuple", data := .seq [u1, u2].toArray } })
    (Q := fun items s' => items = [u1, u2] ∧ ∃ h', s' = { psn { s2 with heap := s2.heap.push { cls := .type "tuple", data := .seq [u1, u2].toArray } } with heap := h' } ∧ ∀ b o, (s2.heap.push { cls := .type "tuple", data := .seq [u1, u2].toArray }).get? b = some o → h'.get? b = some o) (items := #[u1, u2]) (I.ok.hd hc) (IsTup.new s2.heap _)
    fun h' hx' => ⟨rfl, h', rfl, fun b o e => hx' b o (Nat.ne_of_lt (Heap.lt_size e)) e⟩)) (Q' := fun items s' => items = [u1, u2] ∧ Inv X pins σ H2 s' ∧ Um [] s'.gens) (fun items s' ⟨s₁, b, _, e, h', e2, k⟩ => by
      refine ⟨e, ?_, b.um um3⟩
      have J : Inv X pins σ H2 s₁ := by rw [e2]; exact (inv_psn I3).kept (t' := s2.toks) k
      exact inv_back b I3.bare J) fun _ _ (z : False) => z
  refine wpAny_bind (wpAny_rule (wpAny_bind (thn hr fun items s3 ⟨e, I4, um4⟩ => ?_)))
  subst e
  show wpAny _ _ (assignInOrder [fun v => bindName X.env y v, fun v => bindName X.env x v] [u2, u1] >>= fun _ => pure Flow.next) _ _ _
  refine wpAny_bind (assignInOrder_cons (wpAny_bindName (thn (u_store I4 um4 hN hj (.inl hy) rw' (.inr hy)) fun _ s4 ⟨I5, um5⟩ => ?_)))
  refine assignInOrder_cons (wpAny_bindName (thn (u_store I5 um5 hN hi (.inl hx) rv (.inr hx)) fun _ s5 ⟨I6, um6⟩ => assignInOrder_nil (wpAny_pure ?_)))
  rw [List.set_comm _ _ (Ne.symm hij)] at I6
  exact ⟨⟨_, H2, I6, q2⟩, um6⟩
end
end K0
end

section
set_option Elab.async false
set_option linter.all false
set_option maxRecDepth 100000
set_option maxHeartbeats 1000000
/-! calls of defs over the softened model, loops -/
namespace K0
open PySem PySem.Spec PyProof.Rows L2 GenW
open Sem (wp)

abbrev CX0 : CXT := fun _ _ _ _ _ _ => False
abbrev Sp0 := List V → Hp → VK → Prop
structure F0 (P : Program) (w : World) (K : PySem.W.Frag) (mg : Str → Option Value) (base : Heap) (k : Nat) (f : Addr) (fd : FuncData) (ps : List Str) (sp : Sp0) : Prop where
  len : ∀ vs H Q, sp vs H Q → vs.length = ps.length
  run : ∀ (A : Around) (outer : List Env) (s : Shared) (H : Hp) (args : Args) (us : List Value) (vs : List V) (Q : VK), Room k A → Env0 P w K mg base A outer s H → BindsTo s fd args (ps.zip us) → Vals vs us → Um [] s.gens → sp vs H Q →
    codeAny (M0 P w) A (.call (.ref f) args) (fun r s' => ∃ u, r = .ok (.ret u) ∧ CE outer P w H s Q u s' ∧ Um [] s'.gens) s
section
variable {X : Cx} {σ : L2.St} {H : Hp} {Q : VK} {D : Ends}
theorem e0_call (hx : X.xe = fun _ _ => False) {f : Addr} {x : Str} {p pos : Pos} {e : Expr} {es : List Expr} {t : TA} {k : Nat} {fd : FuncData} {ps : List Str} {sp : Sp0} {dvs : List V} {ds : List Value} (F : F0 X.prog X.w X.K X.mg X.base k f fd ps sp)
    (hr : Room k X.A) (hg : Gl X x) (hm : X.mg x = some (.ref f)) (hk : PySem.W.keepIn X.K (.ref f) = true) (hb : Binds X.K fd ps ds) (hd : Vals dvs ds) (ha : PA X (e :: es) t) (q : t σ H fun vs H1 => sp (vs ++ dvs) H1 Q)
    (hdb : (x == ("__debug__" : Str)) = false := by decide) (he : starEach (e :: es) X.env = (false, eval e X.env) :: starEach es X.env := by rfl) (hpl : (backTo pos (starEach es X.env)).any (·.1) = false := by rfl) : E0 X (.Call (.Name x p) (e :: es) [] pos) σ H Q := by
  intro pins s I u
  refine u_callX hx I hg hm hk ha q (fun us vs H1 s1 t1 b1 n1 I1 r hs => ?_) hdb he hpl
  have r2 : Vals (vs ++ dvs) (us ++ ds) := r.append hd
  have hl : (us ++ ds).length = ps.length := by rw [← r2.length]; exact F.len _ _ _ hs
  refine wpAny_call (codeAny_mono (F.run X.A X.stack s1 H1 ⟨us, []⟩ (us ++ ds) (vs ++ dvs) Q hr I1.env0 (hb s1 us I1.kIn hl) r2 (b1.um u) hs) fun r s' hq => ?_)
  obtain ⟨v, rfl, hc, hu⟩ := hq
  exact ⟨I1.after hc, hu⟩
end
/-- THE RULE: a def over the softened model, by its body -/
theorem f0_of {P : Program} {w : World} {K : PySem.W.Frag} {mg : Str → Option Value} {base : Heap} {k : Nat} {f : Addr} {name qual : Str} {params : Arguments} {body : List Stmt} {scope : Scope} {dV kV doc pm cdv ct oc : Value} {an od : Option Addr}
    {osl : Array (Option Value)} {N ps : List Str} {sp : Sp0} (lk : K.lookup f = some ⟨oc, od, .func (PySem.W.fnOf name qual params body scope dV kV doc pm an cdv ct), osl⟩) (hcd : PySem.W.codeIn K cdv qual = true) (S : FnScope N ps scope)
    (len : ∀ vs H Q, sp vs H Q → vs.length = ps.length)
    (hbody : ∀ (A : Around) (outer : List Env) (s : Shared) (H : Hp) (vs : List V) (Q : VK), Room k (A.deeper (envOfC qual scope s.heap.objs.size f cdv)) → sp vs H Q →
      S0s (cxOf CX0 P w K mg base N qual scope f cdv A outer s H fun _ _ _ => False).nox body (start N vs) H { nx := fun _ H' => Q .non H', rt := Q }) :
    F0 P w K mg base (k + 1) f (PySem.W.fnOf name qual params body scope dV kV doc pm an cdv ct) ps sp := by
  refine ⟨len, fun A outer s H args us vs Q hr e0 hb r um hsp => ?_⟩
  have hl := len _ _ _ hsp
  have KX : K.In s.heap := e0.mod.kin.keeps fun b o e => (e0.bs b o e).1
  have lim : s.heap.NoLimit := e0.mod.nolimit.keeps fun b o e => (e0.bs b o e).1
  have hkind : ∀ y ∈ ps.zip us, scope.names.lookup y.1 = some .local ∨ (scope.names.lookup y.1 = some .cell ∧ ((cellsFrom (s.heap.objs.size + 1) scope.names []).lookup y.1).isSome = true) := fun ⟨n, v⟩ hy => by
    rcases S.par n (List.of_mem_zip hy).1 with q | q
    · exact .inl q
    · exact .inr ⟨q, PySem.W.cellsFrom_some _ _ _ (.inl q)⟩
  refine u_call_function hr.depth (KX _ _ lk) rfl S.co S.gen rfl (PySem.W.codeRec_of KX hcd) (hb _ _ _ _ ?_)
  refine wpAny_newFunctionEnv_cells S.kind hkind fun env he s1 x => ?_
  subst he
  refine ⟨lim.keeps x.toInCall.keep, u_func ?_⟩
  have gen1 : s1.gens = s.gens := by obtain ⟨h1, tk, es1, hk1⟩ := x.done; rw [es1]
  have I : Inv (cxOf CX0 P w K mg base N qual scope f cdv A outer s H fun _ _ _ => False) [] (start N vs) H s1 := inv_start S hr.hd e0 hl r x
  refine wpAny_mono (hbody A outer s H vs Q (hr.deeper _) hsp [] s1 (I.wish _) (by rw [gen1]; exact um)) (fun fl s' hs => ?_) fun e s' hs => hs.elim
  obtain ⟨hs, um'⟩ := hs
  have fin : ∀ {σ' : L2.St} {H' : Hp} {v : V} {u : Value}, Inv (cxOf CX0 P w K mg base N qual scope f cdv A outer s H fun _ _ _ => False).nox [] σ' H' s' → RelV v u → Q v H' → ∃ u', (Except.ok (Flow.ret u) : Result) = .ok (.ret u') ∧ CE outer P w H s Q u' s' ∧ Um [] s'.gens :=
    fun {σ' H' v u} J rv q => ⟨u, rfl, ⟨v, H', J.os, J.bare, J.base, J.hok, rv, q⟩, um'⟩
  cases fl with
  | ret u =>
    obtain ⟨v, σ', H', J, rv, q⟩ := hs
    exact fin J rv q
  | next =>
    obtain ⟨σ', H', J, q⟩ := hs
    exact fin (v := V.non) (u := Value.none) J rfl q
  | brk =>
    obtain ⟨_, _, _, q⟩ := hs
    exact False.elim q
  | cont =>
    obtain ⟨_, _, _, q⟩ := hs
    exact False.elim q

section
variable {X : Cx} {σ : L2.St} {H : Hp} {Q : VK} {D : Ends} {pos : Pos}
/-- for, over what the kit's model serves -/
theorem s0_for (hx : X.xe = fun _ _ => False) {tg iter : Expr} {body : List Stmt} {wi : TI} {g : TG} (hc : X.calm = true) (hi : PI X tg iter wi) (hg : PG X tg g) (q : tFor wi g (fun D σ H => S0s X body σ H D) D σ H) (hs : ∀ x, foldedSetIterable iter X.env x = pure x := by intro _; rfl) :
    S0 X (.For tg iter body [] pos) σ H D := by
  intro pins s I um
  have h1 := hi.run pins (psn s) σ H _ (inv_psn I) q
  rw [hx] at h1
  refine wpAny_For (wpAny_mono (up_run (Nat.le_refl _) h1) (fun v s1 ⟨t1, b1, n1, h1⟩ => ?_) fun _ _ x => x.elim) hs
  refine wpAny_mono (up_more n1 b1 h1) (fun itv s2 ⟨t2, b2, n2, h2⟩ => ?_) fun _ _ x => x.elim
  obtain ⟨it, fp, tn, J, H2, e, I2, T, st2, f2, W, ⟨m0, w0⟩, turn⟩ := h2
  subst e
  have stat : ∀ {H' : Hp}, (∀ b ∈ fp, H' b = none) → ∀ b ∈ fp, FpOk X pins H' b := fun hn b hb => ⟨hn b hb, (f2 b hb).2⟩
  refine codeAny_mono (R := fun r s' => ∃ f, r = .ok f ∧ SP X pins D f s' ∧ Um [] s'.gens) ?_ fun r s' ⟨f, e, q, u⟩ => by subst e; exact ⟨q, u⟩
  refine u_forLoop (fun n s' => ∃ i σ' H', Inv X pins σ' H' s' ∧ Um [] s'.gens ∧ tn i s'.heap ∧ (∀ b ∈ fp, H' b = none) ∧ W i n σ' H') ?_ m0 ⟨0, σ, H2, inv_back b2 I.bare I2, b2.um um, by rw [b2.heap]; exact st2, fun b hb => (f2 b hb).1, w0⟩
  rintro n s3 ⟨i, σ3, H3, I3, um3, st3, fr3, w3⟩
  rcases turn i n σ3 H3 w3 with ⟨stop, qn⟩ | ⟨go, N, hN, step⟩
  · refine wpAny_mono (up_run (Nat.le_refl _) (T.done X rfl rfl rfl hc i pins (psn s3) σ3 H3 (fun _ _ => False) (inv_psn I3) (stat fr3) st3 stop)) (fun r s4 ⟨t4, b4, n4, hr, I4⟩ => ?_) fun _ _ x => x.elim
    subst hr
    exact wpAny_execs_nil ⟨_, rfl, ⟨σ3, H3, inv_back b4 I3.bare I4, qn⟩, b4.um um3⟩
  · refine wpAny_mono (up_run (Nat.le_refl _) (T.item X rfl rfl rfl hc i pins (psn s3) σ3 H3 (fun _ _ => False) (inv_psn I3) (stat fr3) st3 go)) (fun r s4 ⟨t4, b4, n4, u, hr, h4⟩ => ?_) fun _ _ x => x.elim
    subst hr
    refine wpAny_mono (up_more n4 b4 h4) (fun _ s5 ⟨t5, b5, n5, x, H5, I5, r5, y5, st5, fr5⟩ => ?_) fun _ _ x => x.elim
    have I5' := I5.pinned (stat fr5) (T.obj _ _ st5)
    have hg5 := hg.run _ t5 σ3 H5 x u _ I5' r5 (step x H5 y5)
    rw [hx] at hg5
    refine wpAny_mono (up_more n5 b5 hg5) (fun _ s6 ⟨t6, b6, n6, σ6, H6, I6, q6⟩ => ?_) fun _ _ x => x.elim
    refine wpAny_mono (q6 _ s6 (inv_back b6 I3.bare I6) (b6.um um3)) (fun f s7 ⟨q7, um7⟩ => ?_) fun _ _ x => x
    have again : ∀ {σ7 : L2.St} {H7 : Hp}, Inv X (pins ++ pinsAt fp t5.heap) σ7 H7 s7 → N σ7 H7 → ∃ m, m < n ∧ ∃ i σ' H', Inv X pins σ' H' s7 ∧ Um [] s7.gens ∧ tn i s7.heap ∧ (∀ b ∈ fp, H' b = none) ∧ W i m σ' H' := fun {σ7 H7} I7 n7 => by
      obtain ⟨m', hm, w7⟩ := hN σ7 H7 n7
      refine ⟨m', hm, i + 1, σ7, H7, I7.unpinned, um7, T.keep _ _ _ st5 fun b hb o e => (I7.pin (b, o) (List.mem_append_right _ (List.mem_append_right _ (mem_pinsAt hb e)))).1, fun b hb => ?_, w7⟩
      obtain ⟨o, e, d⟩ := T.obj _ _ st5 b hb
      exact (I7.pin (b, o) (List.mem_append_right _ (List.mem_append_right _ (mem_pinsAt hb e)))).2.1
    cases f with
    | next => obtain ⟨σ7, H7, I7, n7⟩ := q7; exact again I7 n7
    | cont => obtain ⟨σ7, H7, I7, n7⟩ := q7; exact again I7 n7
    | brk => obtain ⟨σ7, H7, I7, q7⟩ := q7; exact ⟨_, rfl, ⟨σ7, H7, I7.unpinned, q7⟩, um7⟩
    | ret v => obtain ⟨x7, σ7, H7, I7, r7, q7⟩ := q7; exact ⟨_, rfl, ⟨x7, σ7, H7, I7.unpinned, r7, q7⟩, um7⟩
theorem Held.any {pins lx lx' pg : List (Addr × Obj)} {B : List Nat} {a : Addr} {oa : Obj} {G : GSt} {its : List Item} {ks : List (Nat × GenState)} {Hr : Hp} {gs : GenState} {s : Shared} (h : Held X pins lx B a oa G its pg ks Hr gs s) (e : ∀ p ∈ lx', ∃ p' ∈ lx, p'.1 = p.1) : Held X pins lx' B a oa G its pg ks Hr gs s :=
  ⟨h.ok, h.ia, h.at_, h.kp, h.ne, h.um, h.slp, fun p hp q hq => by
    rcases List.mem_append.mp hp with z | z
    · exact h.sep p (List.mem_append_left _ z) q hq
    · rcases List.mem_append.mp z with z | z
      · exact h.sep p (List.mem_append_right _ (List.mem_append_left _ z)) q hq
      · rcases List.mem_cons.mp z with z | z
        · exact h.sep p (List.mem_append_right _ (List.mem_append_right _ (by rw [z]; exact List.mem_cons_self))) q hq
        · obtain ⟨p', hp', e⟩ := e p z
          rw [← e]
          exact h.sep p' (List.mem_append_right _ (List.mem_append_right _ (List.mem_cons_of_mem _ hp'))) q hq, h.lo⟩
/-- what holds of a generator behind a run of the kit's model -/
theorem Held.back {pins lx pg : List (Addr × Obj)} {B : List Nat} {a : Addr} {oa : Obj} {G : GSt} {its : List Item} {ks : List (Nat × GenState)} {Hr : Hp} {gs : GenState} {s s₁ s' : Shared} (h : Held X pins lx B a oa G its pg ks Hr gs s) (hS : isS (some gs) = true) (b : Back s s₁ s') : Held X pins lx B a oa G its pg ks Hr gs s' :=
  ⟨h.ok, h.ia, ((show Kp [(G.g, gs)] s.gens from fun q hq => by rw [List.mem_singleton.mp hq]; exact ⟨h.at_, hS⟩).back b (G.g, gs) List.mem_cons_self).1, h.kp.back b, h.ne, b.um h.um, h.slp, h.sep, h.lo⟩
theorem hgo_gen {tg : Expr} : ∀ (it : Value) (u : Value) (M : Model) (A : Around) (E : Value → Shared → Prop) (s : Shared) (a : Addr) (o : Obj) (gg : Nat) (Q : Unit → Shared → Prop), it = .ref a → s.heap.get? a = some o → IsGo o gg → Q () s → wpAny M A (letOwnedTupleGo tg it u) Q E s := by
  intro it u M A E s a o gg Q e ho hi hq
  subst e
  obtain ⟨nm, qn, hc, hd, _⟩ := hi
  exact go_of ho hc hd (by decide) hq
/-- for x in f(e, ..), f a generator def; the body by the kit's model -/
theorem s0_forG (hx : X.xe = fun _ _ => False) {f : Addr} {x : Str} {p pos' : Pos} {e : Expr} {es : List Expr} {t : TA} {k : Nat} {fd : FuncData} {ps : List Str} {sp : SpI} {dvs : List V} {ds : List Value} {tg : Expr} {g : TG} {body : List Stmt} {tb : TS} (F : GF X.prog X.w X.K X.mg X.base k f fd ps sp)
    (hr : Room (k + 2) X.A) (hcl : ∀ y c, X.env.cells.lookup y = some c → True) (hg : Gl X x) (hm : X.mg x = some (.ref f)) (hkp : PySem.W.keepIn X.K (.ref f) = true) (hb : Binds X.K fd ps ds) (hd : Vals dvs ds) (ha : PA X (e :: es) t) (hgt : PG X tg g) (hbd : PSs X body tb)
    (q : t σ H fun vs H1 => ∃ its2, sp (vs ++ dvs) H1 its2 ∧ ∃ Pv : List Item → L2.St → Hp → Prop, Pv its2 σ H1 ∧ (∀ σ H H', Pv [] σ H → Ext H H' → D.nx σ H') ∧
      ∀ it rest σ H x H', Pv (it :: rest) σ H → Ext H H' → it x H' → g x σ H' fun σ2 H2 => tb { nx := fun σ' H'' => Stay H' H'' ∧ Pv rest σ' H'', ct := fun σ' H'' => Stay H' H'' ∧ Pv rest σ' H'', rt := fun _ _ => False } σ2 H2)
    (hdb : (x == ("__debug__" : Str)) = false := by decide) (he : starEach (e :: es) X.env = (false, eval e X.env) :: starEach es X.env := by rfl) (hpl : (backTo pos (starEach es X.env)).any (·.1) = false := by rfl)
    (hs : ∀ y, foldedSetIterable (.Call (.Name x p) (e :: es) [] pos) X.env y = pure y := by intro _; rfl) : S0 X (.For tg (.Call (.Name x p) (e :: es) [] pos) body [] pos') σ H D := by
  intro pins s I um
  refine wpAny_For (u_callG hx I F (hr.mono (by omega)) hg hm hkp hb hd ha q (fun u its2 H1 s0 t0 s1 b0 n0 I0 hR made => ?_) hdb he hpl) hs
  obtain ⟨Pv, p0, pstop, pstep⟩ := hR
  obtain ⟨a, oa, oL, c2, N, env, rfl, GO2, hL2, ha2, hos, hgens, hkeep, hoa, hia, hoL, hnc, slp⟩ := made
  refine u_iter (hia.isG hoa) ?_
  refine codeAny_mono (R := fun r s' => ∃ f, r = .ok f ∧ SP X pins D f s' ∧ Um [] s'.gens) ?_ fun r s' ⟨f, e, q, u⟩ => by subst e; exact ⟨q, u⟩
  have hGL : X.env.locals < env.locals := by rw [hL2]; exact I0.lt
  have hcl : ∀ y c, X.env.cells.lookup y = some c → c < env.locals := fun y c e => by
    obtain ⟨v, z⟩ := I0.cell y c e
    rw [hL2]; exact z.lt
  have hex : ∀ b, env.locals ≤ b → b ∈ X.ex ∨ X.s_0.heap.objs.size ≤ b := fun b hb => .inr (Nat.le_trans I0.sz (by rw [← hL2]; exact hb))
  refine u_forLoop (fun n s => ∃ rest σ H Hr pg ks gs, n = rest.length ∧ Pv rest σ H ∧ Stay Hr H ∧ Inv X (pins ++ (a, oa) :: pg) σ H s ∧ Held X pins [] [] a oa (mkG X N env k s0.gens.size) rest pg ks Hr gs s) ?_ its2.length ⟨its2, σ, H1, H1, [(env.locals, oL)], [], .fresh c2, rfl, p0, Stay.refl, ?_, ?_⟩
  · rintro n s2 ⟨rest, σ2, H2, Hr, pg, ks, gs, rfl, pv, st, I2, h2⟩
    have asks : Asks X X.A [] (mkG X N env k s0.gens.size) H2 s2 := ⟨hr.in1, I2.ok.frames, fun p hp => (by cases hp), .inl hGL, hcl, fun b hb _ _ => hex b hb⟩
    refine wake_next I2 h2 st asks (fun H' s' e I' ex um' _ hn => ?_) fun it rest' v xx pg' ks' H' gs' s' e I' h' rv hit ex _ hS hn => ?_
    · subst e
      refine wpAny_execs_nil ⟨_, rfl, ⟨σ2, H', I'.pins_of fun p hp => I'.pin p (List.mem_append_right _ (List.mem_append_left _ hp)), pstop _ _ _ pv ex⟩, um'⟩
    · subst e
      have hoa' := (I'.pin (a, oa) (List.mem_append_right _ (List.mem_append_right _ List.mem_cons_self))).1
      refine hgo_gen _ _ _ _ _ _ a oa s0.gens.size _ rfl hoa' hia ?_
      have hg3 := hgt.run _ (psn s') σ2 H' xx v _ (inv_psn I') rv (pstep _ _ _ _ _ _ pv ex hit)
      rw [hx] at hg3
      refine wpAny_mono (up_run (Nat.le_refl _) hg3) (fun _ s3 ⟨t3, b3, n3, σ3, H3, I3, q3⟩ => ?_) fun _ _ x => x.elim
      have hb3 := hbd.run _ (psn s3) σ3 H3 _ (inv_psn (inv_back b3 I'.bare I3)) q3
      rw [hx] at hb3
      refine wpAny_mono (up_run (Nat.le_refl _) hb3) (fun fl s4 ⟨t4, b4, n4, q4⟩ => ?_) fun _ _ x => x.elim
      have h4 := (h'.back hS b3).back hS b4
      have bare3 : AllBare s3.gens := (inv_back b3 I'.bare I3).bare
      cases fl with
      | next => obtain ⟨σ7, H7, I7, st7, pv7⟩ := q4; exact ⟨rest'.length, by simp, rest', σ7, H7, H', pg', ks', gs', rfl, pv7, st7, inv_back b4 bare3 I7, h4⟩
      | cont => obtain ⟨σ7, H7, I7, st7, pv7⟩ := q4; exact ⟨rest'.length, by simp, rest', σ7, H7, H', pg', ks', gs', rfl, pv7, st7, inv_back b4 bare3 I7, h4⟩
      | brk => obtain ⟨_, _, _, z⟩ := q4; exact z.elim
      | ret v => obtain ⟨_, _, _, _, _, z⟩ := q4; exact z.elim
  · have J1 : Inv X pins σ H1 s1 := I0.call' (ch := []) hos (Un.kept hkeep) (I0.hok.kept hkeep) (by rw [hgens]; exact AllBare.push I0.bare rfl) fun b hb => by simp at hb
    have young : ∀ b, s0.heap.objs.size ≤ b → H1 b = none ∧ b ≠ X.env.locals ∧ b ∉ X.fs := fun b hb => ⟨I0.hok.fresh hb, Nat.ne_of_gt (Nat.lt_of_lt_of_le I0.lt hb), I0.nofs hb⟩
    refine J1.pins_of fun p hp => ?_
    rcases List.mem_append.mp hp with hp | hp
    · exact J1.pin p (List.mem_append_right _ hp)
    · rcases List.mem_cons.mp hp with rfl | hp
      · obtain ⟨y1, y2, y3⟩ := young a (Nat.le_of_lt ha2)
        exact ⟨hoa, y1, y2, y3, hia.nocell⟩
      · rw [List.mem_singleton.mp hp]
        obtain ⟨y1, y2, y3⟩ := young env.locals (Nat.le_of_eq hL2.symm)
        exact ⟨hoL, y1, y2, y3, hnc⟩
  · have hnew : ∀ p ∈ X.pn ++ pins, p.1 < s0.heap.objs.size := fun p hp => Heap.lt_size (I0.pin p hp).1
    refine ⟨GO2, hia, by rw [hgens]; exact Array.getElem?_push_size .., fun q hq => (by cases hq), fun q hq => (by cases hq), ?_, slp, fun p hp q hq => ?_, fun q hq => ?_⟩
    · rw [hgens]
      exact ((b0.um um).push c2).more fun b hb => by cases hb
    · rw [List.mem_singleton.mp hq]
      show p.1 ≠ env.locals
      rw [hL2]
      rcases List.mem_append.mp hp with hp | hp
      · exact Nat.ne_of_lt (hnew p (List.mem_append_left _ hp))
      · rcases List.mem_append.mp hp with hp | hp
        · exact Nat.ne_of_lt (hnew p (List.mem_append_right _ hp))
        · rw [List.mem_singleton.mp hp]; exact Nat.ne_of_gt ha2
    · rw [List.mem_singleton.mp hq]; exact Nat.le_refl _
end
end K0
end

section
set_option Elab.async false
set_option linter.all false
set_option maxRecDepth 100000
set_option maxHeartbeats 1000000
/-! list comprehensions over a generator -/
namespace K0
open PySem PySem.Spec PyProof.Rows L2 GenW
open Sem (wp)

section
variable {P : Program} {w : World} {A : Around} {s : Shared} {R : Result → Shared → Prop}
theorem u_compLoop {elt target iter : Expr} {ifs : List Expr} {scope : Scope} {pos : Pos} {it acc : Value} {env : Env} (I : Nat → Shared → Prop)
    (turn : ∀ n s, I n s → wpAny (M0 P w) A (pyNext it) (fun r s₁ => match r with
      | none => R (.ok .next) s₁
      | some v => wpAny (M0 P w) A (letOwnedTupleGo target it v) (fun _ s₁' => wpAny (M0 P w) A (assign target env v) (fun _ s₂ =>
          wpAny (M0 P w) A (forIn ifs true fun c r => if r = true then do let ok ← isTrue c env (eval c env); pure (ForInStep.yield ok) else pure (ForInStep.yield r)) (fun ok s₃ =>
            if ok = true then wpAny (M0 P w) A (eval elt env) (fun x s₄ => wpAny (M0 P w) A (call (.builtin "list.append") [acc, x]) (fun _ s₅ => ∃ m, m < n ∧ I m s₅) (fun _ _ => False) s₄) (fun _ _ => False) s₃
            else ∃ m, m < n ∧ I m s₃) (fun _ _ => False) s₂) (fun _ _ => False) s₁') (fun _ _ => False) s₁) (fun _ _ => False) s)
    (n : Nat) (h : I n s) : codeAny (M0 P w) A (.compLoop (.ListComp elt [⟨target, iter, ifs, 0⟩] scope pos) 0 it acc env) R s := by
  refine codeAny_loop rfl I (fun n s hI => ?_) n h
  show wpAny _ A ((compTurn (.ListComp elt [⟨target, iter, ifs, 0⟩] scope pos) 0 it acc env).onRaise (fun x => do noteFrame x env; theTreesLotGoes x)) _ _ s
  refine wpAny_onRaise (wpAny_mono (Q := fun fin s' => match fin with | .done f => R (.ok f) s' | .again c' => c' = .compLoop (.ListComp elt [⟨target, iter, ifs, 0⟩] scope pos) 0 it acc env ∧ ∃ m, m < n ∧ I m s') (E := fun _ _ => False) ?_ (fun _ _ x => x) fun _ _ x => x.elim)
  rw [compTurn_list]
  refine wpAny_bind (wpAny_standAt (wpAny_bind (wpAny_mono (turn n s hI) (fun r s₁ h₁ => ?_) fun _ _ h' => h')))
  cases r with
  | none => exact wpAny_pure h₁
  | some v =>
    refine wpAny_bind (wpAny_mono h₁ (fun _ s₁' h₁' => ?_) fun _ _ h' => h')
    refine wpAny_bind (wpAny_mono h₁' (fun _ s₂ h₂ => wpAny_bind (wpAny_mono h₂ (fun ok s₃ h₃ => ?_) fun _ _ h' => h')) fun _ _ h' => h')
    cases ok with
    | false => exact wpAny_pure ⟨rfl, h₃⟩
    | true =>
      exact wpAny_bind (wpAny_bind (wpAny_mono h₃ (fun x s₄ h₄ => wpAny_bind (wpAny_mono h₄ (fun _ s₅ h₅ => wpAny_pure (wpAny_pure ⟨rfl, h₅⟩)) fun _ _ h' => h')) fun _ _ h' => h'))
theorem u_compStart {elt target iter : Expr} {ifs : List Expr} {scope : Scope} {pos : Pos} {it acc : Value} {env : Env}
    (h0 : codeAny (M0 P w) A (.compLoop (.ListComp elt [⟨target, iter, ifs, 0⟩] scope pos) 0 it acc env) R s)
    (h : wpAny (M0 P w) A (pyIter it) (fun it' s' => codeAny (M0 P w) A (.compLoop (.ListComp elt [⟨target, iter, ifs, 0⟩] scope pos) 0 it' acc env) R s') (fun _ _ => False) s) :
    codeAny (M0 P w) A (.compStart (.ListComp elt [⟨target, iter, ifs, 0⟩] scope pos) 0 it acc env) R s := by
  refine codeAny_of_tree ?_
  show wpAny _ _ ((compStart (.ListComp elt [⟨target, iter, ifs, 0⟩] scope pos) 0 it acc env).onRaise (fun x => do noteFrame x env; standAt theWindowsPlace)) _ _ s
  refine wpAny_onRaise (wpAny_mono (Q := fun fin s' => match fin with | .done f => R (.ok f) s' | .again c' => c'.quiet = true ∧ codeAny (M0 P w) A c' R s') (E := fun _ _ => False) ?_ (fun _ _ x => x) fun _ _ x => x.elim)
  unfold compStart
  show wpAny _ _ (ask >>= _) _ _ s
  refine wpAny_bind (wpAny_askSetting (wpAny_ite ?_))
  split
  · first
      | exact wpAny_bind (wpAny_pure (wpAny_pure (And.intro rfl h0)))
      | exact wpAny_pure (And.intro rfl h0)
  · first
      | exact wpAny_bind (wpAny_rule (wpAny_bind (wpAny_standAt (wpAny_bind (wpAny_mono h (fun it' s' h' => wpAny_pure (And.intro rfl h')) fun _ _ x => x)))))
      | (refine wpAny_bind (wpAny_rule ?_); show wpAny _ _ (standAt iter.pos >>= _) _ _ s; exact wpAny_bind (wpAny_standAt (wpAny_bind (wpAny_mono h (fun it' s' h' => wpAny_pure (And.intro rfl h')) fun _ _ x => x))))
end
/-- a new list, over the softened model: a reading -/
def LcG (sp : SpI) (dvs : List V) (t : TA) (g : TG) (tt : TT) (te : TE) (vs : List Nat) (σ : L2.St) (H : Hp) (Q : VK) : Prop :=
  t σ H fun us H1 => ∃ its, sp (us ++ dvs) H1 its ∧ ∀ D, H1 D = none → ∃ Pv : List Item → Hp → Prop, Pv its (upd H1 D (.lst [])) ∧ (∀ its H, Pv its H → ∃ acc, H D = some (.lst acc)) ∧ (∀ H H', Pv [] H → Ext H H' → Q (.ref D) H') ∧
    ∀ it rest H x H', Pv (it :: rest) H → Ext H H' → it x H' → g x (wipe σ vs) H' fun σ2 H2 => wipe σ2 vs = wipe σ vs ∧ tt σ2 H2 fun b H3 =>
      if b = true then te σ2 H3 fun y H4 => ∃ acc, H4 D = some (.lst acc) ∧ acc.length < sizeLine ∧ Stay H' (upd H4 D (.lst (acc ++ [y]))) ∧ Pv rest (upd H4 D (.lst (acc ++ [y]))) else Stay H' H3 ∧ Pv rest H3
section
variable {X : Cx} {σ : L2.St} {H : Hp} {Q : VK} {D : Ends}
theorem lcG_core (hx : X.xe = fun _ _ => False) {pins : List (Addr × Obj)} {s : Shared} {f : Addr} {x : Str} {p posc : Pos} {e : Expr} {es : List Expr} {t : TA} {k : Nat} {fd : FuncData} {ps : List Str} {sp : SpI} {dvs : List V} {ds : List Value} {elt tg : Expr} {ifs : List Expr} {scope : Scope} {own : List (Str × Nat)} {pos pos' : Pos} {g : TG} {tt : TT} {te : TE}
    {use : Option (Value → Sem Unit)} {Qf : Value → Shared → Prop} (F : GF X.prog X.w X.K X.mg X.base k f fd ps sp)
    (hr : Room (k + 2) X.A) (hg : Gl X x) (hm : X.mg x = some (.ref f)) (hkp : PySem.W.keepIn X.K (.ref f) = true) (hb : Binds X.K fd ps ds) (hd : Vals dvs ds) (ha : PA X (e :: es) t)
    (hN : X.N.Nodup) (I : Inv X pins σ H s) (um : Um [] s.gens) (ok : BlkOk X.N X.env.scope scope own) (hnc : ∀ y ∈ scope.names, y.2 ≠ .cell)
    (hgt : ∀ (s : Shared) (H : Hp) (C : Addr) (cl : List (Str × Addr)) (fp : List Addr), PG (X.blk s H scope (compEnvC scope cl C X.env) fp) tg g) (ht : ∀ (s : Shared) (H : Hp) (C : Addr) (cl : List (Str × Addr)) (fp : List Addr), PTs (X.blk s H scope (compEnvC scope cl C X.env) fp) ifs tt)
    (hel : ∀ (s : Shared) (H : Hp) (C : Addr) (cl : List (Str × Addr)) (fp : List Addr), PE (X.blk s H scope (compEnvC scope cl C X.env) fp) elt te) (hs : ∀ y, foldedSetIterable (.Call (.Name x p) (e :: es) [] posc) X.env y = pure y)
    (q : LcG sp dvs t g tt te (own.map (·.2)) σ H Q)
    (hRR : ∀ D C s' m H', Inv X pins σ H' s' → Um [] s'.gens → Q (.ref D) H' → s'.heap.Ns C m → FpOk X pins H' C → compPost (M0 X.prog X.w) X.A (fun _ _ => False) use Qf (.ref D) C (.ok .next) s')
    (hdb : (x == ("__debug__" : Str)) = false := by decide) (he : starEach (e :: es) X.env = (false, eval e X.env) :: starEach es X.env := by rfl) (hpl : (backTo posc (starEach es X.env)).any (·.1) = false := by rfl) :
    wpAny (M0 X.prog X.w) X.A (comprehension (.ListComp elt [⟨tg, .Call (.Name x p) (e :: es) [] posc, ifs, 0⟩] scope pos) scope X.env pos' (newList []) false (eval (.Call (.Name x p) (e :: es) [] posc) X.env) use) Qf (fun _ _ => False) s := by
  have hfree : ∀ y ∈ scope.names, y.2 = .free → ∃ c, X.env.cells.lookup y.1 = some c := fun y hy e => by
    rcases ok.free y hy e with k | k
    · exact I.ok.has _ (.inl k)
    · exact I.ok.has _ (.inr k)
  refine wpAny_comprehension_free (use := use) rfl hs (closure_ok hfree) ok.kind (fun y hy e => by rw [ok.uniq y hy, e])
    (u_callG hx I F (hr.mono (by omega)) hg hm hkp hb hd ha q (fun u its2 H1 s0 t0 s1 b0 n0 I0 hR made => ?_) hdb he hpl)
  obtain ⟨a, oa, oL, c2, N, env, rfl, GO2, hL2, ha2, hos, hgens, hkeep, hoa, hia, hoL, hnc2, slp⟩ := made
  refine u_iter (hia.isG hoa) ?_
  refine wpAny_newObj_type (newEnv_comp ?_) (by show 0 ≤ sizeLine; decide)
  have J1 : Inv X pins σ H1 s1 := I0.call' (ch := []) hos (Un.kept hkeep) (I0.hok.kept hkeep) (by rw [hgens]; exact AllBare.push I0.bare rfl) fun b hb => by simp at hb
  have um1 : Um [s0.gens.size] s1.gens := by rw [hgens]; exact ((b0.um um).push c2).more fun b hb => by cases hb
  generalize hD : s1.heap.objs.size = D
  have hDn : H1 D = none := J1.hok.fresh (Nat.le_of_eq hD)
  obtain ⟨Pv, p0, plst, pstop, pstep⟩ := hR D hDn
  generalize hs3 : ({ s1 with heap := s1.heap.push { cls := .type "list", data := .seq ([] : List Value).toArray } } : Shared) = s3
  have I3 : Inv X pins σ (upd H1 D (.lst [])) s3 := by
    rw [← hs3]
    refine J1.laid (t' := s1.toks) (fun b o e => Heap.get?_push_of_some _ e) (Nat.le_of_eq hD) ⟨Nat.zero_le _, [], 0, .nil, ?_⟩
    rw [← hD]
    exact Heap.get?_push_size _ rfl
  have h3 : s3.heap = s1.heap.push { cls := .type "list", data := .seq ([] : List Value).toArray } := by rw [← hs3]
  have k3 : ∀ b o, s1.heap.get? b = some o → s3.heap.get? b = some o := fun b o e => by rw [h3]; exact Heap.get?_push_of_some _ e
  have g3 : s3.gens = s1.gens := by rw [← hs3]
  have z3 : s3.heap.objs.size = D + 1 := by rw [h3, Heap.size_push, hD]
  -- the objects that are the generator's
  generalize hfp : (List.range s3.heap.objs.size).filter (fun b => decide (env.locals ≤ b) && decide (b ≠ D)) = fp
  have mfp : ∀ b, b ∈ fp ↔ b < s3.heap.objs.size ∧ env.locals ≤ b ∧ b ≠ D := fun b => by
    rw [← hfp]; simp [List.mem_filter]
  have new1 : ∀ b, env.locals ≤ b → b ≠ D → (upd H1 D (.lst [])) b = none := fun b h1 h2 => by
    rw [upd_ne h2]
    exact I0.hok.fresh (by rw [← hL2]; exact h1)
  have f3 : ∀ b ∈ fp, FpOk X pins (upd H1 D (.lst [])) b ∧ b < s3.heap.objs.size := fun b hb => by
    obtain ⟨h1, h2, h3⟩ := (mfp b).mp hb
    exact ⟨I0.fpOk (by rw [← hL2]; exact h2) (new1 b h2 h3), h1⟩
  have I4 := block_start I3 ok hN f3
  have pg := hgt s3 (upd H1 D (.lst [])) s3.heap.objs.size (cellsFrom (s3.heap.objs.size + 1) scope.names (cloFrom X.env.cells scope.names [])) fp
  have pt := ht s3 (upd H1 D (.lst [])) s3.heap.objs.size (cellsFrom (s3.heap.objs.size + 1) scope.names (cloFrom X.env.cells scope.names [])) fp
  have pe := hel s3 (upd H1 D (.lst [])) s3.heap.objs.size (cellsFrom (s3.heap.objs.size + 1) scope.names (cloFrom X.env.cells scope.names [])) fp
  show codeAny _ _ (.compStart (.ListComp elt [⟨tg, .Call (.Name x p) (e :: es) [] posc, ifs, 0⟩] scope pos) 0 (.ref a) (.ref D) (compEnvC scope (cellsFrom (s3.heap.objs.size + 1) scope.names (cloFrom X.env.cells scope.names [])) s3.heap.objs.size X.env)) (compPost (M0 X.prog X.w) X.A (fun _ _ => False) use Qf (.ref D) s3.heap.objs.size) { s3 with heap := pushCells (s3.heap.push { cls := .type "dict", data := .dict #[] }) scope.names }
  have ccell : ∀ y c, (compEnvC scope (cellsFrom (s3.heap.objs.size + 1) scope.names (cloFrom X.env.cells scope.names [])) s3.heap.objs.size X.env).cells.lookup y = some c → c < env.locals := fun y c h => by
    have h : (cellsFrom (s3.heap.objs.size + 1) scope.names (cloFrom X.env.cells scope.names [])).lookup y = some c := h
    have all : ∀ (names : List (Str × NameKind)) (n : Nat) (acc : List (Str × Addr)), (∀ y ∈ names, y.2 ≠ .cell) → cellsFrom n names acc = acc := by
      intro names
      induction names with
      | nil => intro n acc _; rfl
      | cons y r ih =>
        intro n acc h
        obtain ⟨y1, y2⟩ := y
        unfold cellsFrom
        rw [if_neg (by have := h (y1, y2) List.mem_cons_self; simpa using this)]
        exact ih n acc fun z hz => h z (List.mem_cons_of_mem _ hz)
    rw [all _ _ _ hnc] at h
    rcases cloFrom_mem (PySem.mem_of_lookup h) with hm | ⟨h1, rfl⟩
    · cases hm
    · obtain ⟨c, hc⟩ := hfree _ h1 rfl
      rw [hc]
      obtain ⟨v, z⟩ := I0.cell _ _ hc
      rw [hL2]; exact z.lt
  generalize hce : compEnvC scope (cellsFrom (s3.heap.objs.size + 1) scope.names (cloFrom X.env.cells scope.names [])) s3.heap.objs.size X.env = ce at I4 pg pt pe ccell ⊢
  have cL : ce.locals = s3.heap.objs.size := by subst hce; rfl
  have kc : ∀ b o, s1.heap.get? b = some o → (pushCells (s3.heap.push { cls := .type "dict", data := .dict #[] }) scope.names).get? b = some o := fun b o e => pushCells_keeps _ _ _ _ (Heap.get?_push_of_some _ (k3 b o e))
  have ha1 : a < s1.heap.objs.size := Heap.lt_size hoa
  have hLa : env.locals < a := by rw [hL2]; exact ha2
  have hLD : env.locals < D := by rw [← hD]; exact Heap.lt_size hoL
  have haD : a ≠ D := by rw [← hD]; exact Nat.ne_of_lt ha1
  have outS : ∀ b, env.locals ≤ b → b ∉ frs X.stack := fun b hb hm => by
    rcases List.mem_cons.mp (I0.stkSub b hm) with z | z
    · exact absurd (Nat.lt_of_lt_of_le I0.lt (by rw [← hL2, ← z]; exact hb)) (Nat.lt_irrefl _)
    · exact I0.nofs (by rw [← hL2]; exact hb) z
  have Ib : Inv (X.blk s3 (upd H1 D (.lst [])) scope ce fp) ([] ++ (a, oa) :: [(env.locals, oL)]) (wipe σ (own.map (·.2))) (upd H1 D (.lst [])) { s3 with heap := pushCells (s3.heap.push { cls := .type "dict", data := .dict #[] }) scope.names } := by
    refine I4.pins_of fun p hp => ?_
    have hp : p ∈ (a, oa) :: [(env.locals, oL)] := hp
    rcases List.mem_cons.mp hp with rfl | hp
    · refine ⟨kc a oa hoa, new1 a (Nat.le_of_lt hLa) haD, ?_, outS a (Nat.le_of_lt hLa), hia.nocell⟩
      show a ≠ ce.locals
      rw [cL, z3]; exact Nat.ne_of_lt (Nat.lt_succ_of_lt (by rw [← hD]; exact ha1))
    · rw [List.mem_singleton.mp hp]
      refine ⟨kc env.locals oL hoL, new1 env.locals (Nat.le_refl _) (Nat.ne_of_lt hLD), ?_, outS _ (Nat.le_refl _), hnc2⟩
      show env.locals ≠ ce.locals
      rw [cL, z3]; exact Nat.ne_of_lt (Nat.lt_succ_of_lt hLD)
  generalize hs4 : ({ s3 with heap := pushCells (s3.heap.push { cls := .type "dict", data := .dict #[] }) scope.names } : Shared) = s4 at Ib I4 ⊢
  have g4 : s4.gens = s1.gens := by rw [← hs4]; exact g3
  have loop : codeAny (M0 X.prog X.w) X.A (.compLoop (.ListComp elt [⟨tg, .Call (.Name x p) (e :: es) [] posc, ifs, 0⟩] scope pos) 0 (.ref a) (.ref D) ce) (compPost (M0 X.prog X.w) X.A (fun _ _ => False) use Qf (.ref D) s3.heap.objs.size) s4 := by
    refine u_compLoop (fun n s => ∃ rest H Hr pg ks gs, n = rest.length ∧ Pv rest H ∧ Stay Hr H ∧ Inv (X.blk s3 (upd H1 D (.lst [])) scope ce fp) ([] ++ (a, oa) :: pg) (wipe σ (own.map (·.2))) H s ∧
      Held (X.blk s3 (upd H1 D (.lst [])) scope ce fp) [] [(ce.locals, oa)] [] a oa (mkG (X.blk s3 (upd H1 D (.lst [])) scope ce fp) N env k s0.gens.size) rest pg ks Hr gs s) ?_ its2.length ⟨its2, upd H1 D (.lst []), H1, [(env.locals, oL)], [], .fresh c2, rfl, p0, (Ext.upd hDn).stay, Ib, ?_⟩
    · rintro n s5 ⟨rest, H5, Hr, pg5, ks5, gs5, rfl, pv, st, I5, h5⟩
      obtain ⟨m5, ⟨oC, es5, ep5, hoC, hdC, rC⟩, _⟩ := I5.loc
      have hCn : H5 ce.locals = none := I5.free
      have hoC : s5.heap.get? ce.locals = some oC := hoC
      have hCs : ce.locals ∉ frs X.stack := outS _ (by rw [cL, z3]; exact Nat.le_of_lt (Nat.lt_succ_of_lt hLD))
      have asks : Asks (X.blk s3 (upd H1 D (.lst [])) scope ce fp) X.A [(ce.locals, oC)] (mkG (X.blk s3 (upd H1 D (.lst [])) scope ce fp) N env k s0.gens.size) H5 s5 := by
        refine ⟨hr.in1, I5.ok.frames, fun p hp => ?_, .inr ⟨_, List.mem_cons_self, rfl⟩, fun y c h => ccell y c h, fun b hb1 hb2 hb3 => ?_⟩
        · rw [List.mem_singleton.mp hp]
          exact ⟨hoC, hCn, hCs, fun v z => by rw [hdC] at z; cases z⟩
        · by_cases hb : b < s3.heap.objs.size
          · refine .inl ((mfp b).mpr ⟨hb, hb1, fun z => ?_⟩)
            obtain ⟨acc, hacc⟩ := plst _ _ pv
            rw [z, hacc] at hb3; cases hb3
          · exact .inr (Nat.le_of_not_lt hb)
      have h5' : Held (X.blk s3 (upd H1 D (.lst [])) scope ce fp) [] [(ce.locals, oC)] [] a oa (mkG (X.blk s3 (upd H1 D (.lst [])) scope ce fp) N env k s0.gens.size) rest pg5 ks5 Hr gs5 s5 := h5.any fun p hp => ⟨_, List.mem_cons_self, by rw [List.mem_singleton.mp hp]⟩
      refine wake_next (X := X.blk s3 (upd H1 D (.lst [])) scope ce fp) I5 h5' st asks (fun H' s' e I' ex um' hl hn => ?_) fun it rest' v xx pg' ks' H' gs' s' e I' h' rv hit ex _ hS hn => ?_
      · subst e
        have I7 : Inv X pins σ H' s' := I3.call' (ch := fp) I'.os I'.base I'.hok I'.bare fun b hb => ⟨(f3 b hb).1.2.2.2.1, (f3 b hb).1.2.1, (f3 b hb).1.2.2.2.2.1, (f3 b hb).1.2.2.2.2.2⟩
        have nC : H' s3.heap.objs.size = none := by
          have z : H' ce.locals = none := I'.free
          rw [cL] at z
          exact z
        obtain ⟨m, hn', _⟩ := I'.loc
        have hn' : s'.heap.Ns ce.locals m := hn'
        rw [cL] at hn'
        exact hRR D s3.heap.objs.size s' m H' I7 um' (pstop _ _ pv ex) hn' (I3.fpOk (Nat.le_refl _) nC)
      · subst e
        have hoa' := (I'.pin (a, oa) (List.mem_append_right _ (List.mem_append_right _ List.mem_cons_self))).1
        refine hgo_gen _ _ _ _ _ _ a oa s0.gens.size _ rfl hoa' hia ?_
        have hst := pstep it rest' H5 xx H' pv ex hit
        have hpg := pg.run _ (psn s') (wipe σ (own.map (·.2))) H' xx v _ (inv_psn I') rv hst
        refine wpAny_mono (up_run (Nat.le_refl _) hpg) (fun _ s6 ⟨t6, b6, n6, σ6, H6, I6, hw6, q6⟩ => ?_) fun _ _ x => x.elim
        have J6 := inv_back b6 I'.bare I6
        have hpt := pt.run _ (psn s6) σ6 H6 _ (inv_psn J6) q6
        refine wpAny_mono (up_run (Nat.le_refl _) hpt) (fun b s7 ⟨t7, b7, n7, H7, I7, q7⟩ => ?_) fun _ _ x => x.elim
        have J7 := inv_back b7 J6.bare I7
        have h7 := (h'.back hS b6).back hS b7
        -- the turn's end
        have fin : ∀ {s' : Shared} {H8 : Hp}, Inv (X.blk s3 (upd H1 D (.lst [])) scope ce fp) ([] ++ (a, oa) :: pg') σ6 H8 s' → Held (X.blk s3 (upd H1 D (.lst [])) scope ce fp) [] [(ce.locals, oC)] [] a oa (mkG (X.blk s3 (upd H1 D (.lst [])) scope ce fp) N env k s0.gens.size) rest' pg' ks' H' gs' s' → Stay H' H8 ∧ Pv rest' H8 →
            ∃ m, m < (it :: rest').length ∧ ∃ rest H Hr pg ks gs, m = rest.length ∧ Pv rest H ∧ Stay Hr H ∧ Inv (X.blk s3 (upd H1 D (.lst [])) scope ce fp) ([] ++ (a, oa) :: pg) (wipe σ (own.map (·.2))) H s' ∧
              Held (X.blk s3 (upd H1 D (.lst [])) scope ce fp) [] [(ce.locals, oa)] [] a oa (mkG (X.blk s3 (upd H1 D (.lst [])) scope ce fp) N env k s0.gens.size) rest pg ks Hr gs s' := fun {s' H8} I8 h8 ⟨st8, pv8⟩ => by
          have hl : (wipe σ (own.map (·.2))).length = σ6.length := by rw [← hw6, wipe_length]
          refine ⟨rest'.length, by simp, rest', H8, H', pg', ks', gs', rfl, pv8, st8, I8.weak hl (fun j v e => ?_), h8.any fun p hp => ⟨_, List.mem_cons_self, by rw [List.mem_singleton.mp hp]⟩⟩
          rw [← hw6] at e
          exact (wipe_some e).1
        cases b with
        | false =>
          simp only [Bool.false_eq_true, if_false] at q7 ⊢
          exact fin J7 h7 q7
        | true =>
          simp only [if_true] at q7 ⊢
          have hpe := pe.run _ (psn s7) σ6 H7 _ (inv_psn J7) q7
          refine wpAny_mono (up_run (Nat.le_refl _) hpe) (fun z s8 ⟨t8, b8, n8, yv, H8, I8, r8, acc, hD8, hz8, nx⟩ => ?_) fun _ _ x => x.elim
          have J8 := inv_back b8 J7.bare I8
          have h8 := h7.back hS b8
          refine wpAny_mono (up_run (M := model X.prog X.w) (A := X.A) (Nat.le_refl _) (app_ok (X := X.blk s3 (upd H1 D (.lst [])) scope ce fp) (E := fun _ _ => False) (Q := fun _ s' => Inv (X.blk s3 (upd H1 D (.lst [])) scope ce fp) ([] ++ (a, oa) :: pg') σ6 (upd H8 D (.lst (acc ++ [yv]))) s') (inv_psn J8) hD8 hz8 r8 fun s9 I9 => I9)) (fun _ s9 ⟨t9, b9, n9, I9⟩ => ?_) fun _ _ x => x.elim
          exact fin (inv_back b9 J8.bare I9) (h8.back hS b9) nx
    · have hnew : ∀ p ∈ ([] : List (Addr × Obj)) ++ ([] ++ (a, oa) :: [(ce.locals, oa)]), p.1 ≠ env.locals := fun p hp => by
        have hp : p ∈ (a, oa) :: [(ce.locals, oa)] := hp
        rcases List.mem_cons.mp hp with rfl | hp
        · exact Nat.ne_of_gt hLa
        · rw [List.mem_singleton.mp hp]
          show ce.locals ≠ env.locals
          rw [cL, z3]; exact Nat.ne_of_gt (Nat.lt_succ_of_lt hLD)
      refine ⟨GO2, hia, by rw [g4, hgens]; exact Array.getElem?_push_size .., fun q hq => (by cases hq), fun q hq => (by cases hq), ?_, slp, fun p hp q hq => ?_, fun q hq => ?_⟩
      · rw [g4]; exact um1.more fun b hb => by simpa using hb
      · rw [List.mem_singleton.mp hq]; exact hnew p hp
      · rw [List.mem_singleton.mp hq]; exact Nat.le_refl _
  refine u_compStart loop (u_iter (hia.isG ?_) loop)
  exact (Ib.pin (a, oa) (List.mem_append_right _ (List.mem_append_right _ List.mem_cons_self))).1
end
end K0
end

section
set_option Elab.async false
set_option linter.all false
set_option maxRecDepth 100000
set_option maxHeartbeats 1000000
namespace K0
open PySem PySem.Spec PyProof.Rows L2 GenW
open Sem (wp)
section
variable {X : Cx} {σ : L2.St} {H : Hp} {Q : VK} {D : Ends}
/-- [elt for tg in f(e, ..) if ..], f a generator def -/
theorem e0_lcG (hx : X.xe = fun _ _ => False) {f : Addr} {x : Str} {p posc : Pos} {e : Expr} {es : List Expr} {t : TA} {k : Nat} {fd : FuncData} {ps : List Str} {sp : SpI} {dvs : List V} {ds : List Value} {elt tg : Expr} {ifs : List Expr} {scope : Scope} {own : List (Str × Nat)} {pos : Pos} {g : TG} {tt : TT} {te : TE}
    (F : GF X.prog X.w X.K X.mg X.base k f fd ps sp) (hr : Room (k + 2) X.A) (hg : Gl X x) (hm : X.mg x = some (.ref f)) (hkp : PySem.W.keepIn X.K (.ref f) = true) (hb : Binds X.K fd ps ds) (hd : Vals dvs ds) (ha : PA X (e :: es) t)
    (hN : X.N.Nodup) (ok : BlkOk X.N X.env.scope scope own) (hnc : ∀ y ∈ scope.names, y.2 ≠ .cell)
    (hgt : ∀ (s : Shared) (H : Hp) (C : Addr) (cl : List (Str × Addr)) (fp : List Addr), PG (X.blk s H scope (compEnvC scope cl C X.env) fp) tg g) (ht : ∀ (s : Shared) (H : Hp) (C : Addr) (cl : List (Str × Addr)) (fp : List Addr), PTs (X.blk s H scope (compEnvC scope cl C X.env) fp) ifs tt)
    (hel : ∀ (s : Shared) (H : Hp) (C : Addr) (cl : List (Str × Addr)) (fp : List Addr), PE (X.blk s H scope (compEnvC scope cl C X.env) fp) elt te)
    (q : LcG sp dvs t g tt te (own.map (·.2)) σ H Q) (hs : ∀ y, foldedSetIterable (.Call (.Name x p) (e :: es) [] posc) X.env y = pure y := by intro _; rfl)
    (hdb : (x == ("__debug__" : Str)) = false := by decide) (he : starEach (e :: es) X.env = (false, eval e X.env) :: starEach es X.env := by rfl) (hpl : (backTo posc (starEach es X.env)).any (·.1) = false := by rfl) :
    E0 X (.ListComp elt [⟨tg, .Call (.Name x p) (e :: es) [] posc, ifs, 0⟩] scope pos) σ H Q := by
  intro pins s I um
  rw [eval_ListComp]
  refine lcG_core hx F hr hg hm hkp hb hd ha hN I um ok hnc hgt ht hel hs q (fun L C s' m H' I' um' q hn f => ⟨m, hn, fun h'' sb => ?_⟩) hdb he hpl
  obtain ⟨f0, f1, f2, f3, f4, f5⟩ := f
  exact ⟨⟨.ref L, H', I'.turned (t' := s'.toks) (fun b o hb e => (sb.2 b hb).trans e) f0 f1 f3 f4 f5, rfl, q⟩, um'⟩
/-- name = [..] on one line, the name a local -/
theorem s0_setLcG (hx : X.xe = fun _ _ => False) {i : Nat} {y : Str} {py spos : Pos} {f : Addr} {x : Str} {p posc : Pos} {e : Expr} {es : List Expr} {t : TA} {k : Nat} {fd : FuncData} {ps : List Str} {sp : SpI} {dvs : List V} {ds : List Value} {elt tg : Expr} {ifs : List Expr} {scope : Scope} {own : List (Str × Nat)} {pos : Pos} {g : TG} {tt : TT} {te : TE}
    (F : GF X.prog X.w X.K X.mg X.base k f fd ps sp) (hr : Room (k + 2) X.A) (hg : Gl X x) (hm : X.mg x = some (.ref f)) (hkp : PySem.W.keepIn X.K (.ref f) = true) (hb : Binds X.K fd ps ds) (hd : Vals dvs ds) (ha : PA X (e :: es) t)
    (hN : X.N.Nodup) (hy : X.N[i]? = some y) (hyl : X.env.scope.names.lookup y = some .local) (hsw : swapsWith (.ListComp elt [⟨tg, .Call (.Name x p) (e :: es) [] posc, ifs, 0⟩] scope pos) (some (.Name y py)) spos.line X.env = pure true)
    (ok : BlkOk X.N X.env.scope scope own) (hnc : ∀ y ∈ scope.names, y.2 ≠ .cell)
    (hgt : ∀ (s : Shared) (H : Hp) (C : Addr) (cl : List (Str × Addr)) (fp : List Addr), PG (X.blk s H scope (compEnvC scope cl C X.env) fp) tg g) (ht : ∀ (s : Shared) (H : Hp) (C : Addr) (cl : List (Str × Addr)) (fp : List Addr), PTs (X.blk s H scope (compEnvC scope cl C X.env) fp) ifs tt)
    (hel : ∀ (s : Shared) (H : Hp) (C : Addr) (cl : List (Str × Addr)) (fp : List Addr), PE (X.blk s H scope (compEnvC scope cl C X.env) fp) elt te)
    (q : LcG sp dvs t g tt te (own.map (·.2)) σ H fun v H1 => D.nx (σ.set i (some v)) H1) (hs : ∀ y, foldedSetIterable (.Call (.Name x p) (e :: es) [] posc) X.env y = pure y := by intro _; rfl)
    (hdb : (x == ("__debug__" : Str)) = false := by decide) (he : starEach (e :: es) X.env = (false, eval e X.env) :: starEach es X.env := by rfl) (hpl : (backTo posc (starEach es X.env)).any (·.1) = false := by rfl) :
    S0 X (.Assign [.Name y py] (.ListComp elt [⟨tg, .Call (.Name x p) (e :: es) [] posc, ifs, 0⟩] scope pos) spos) σ H D := by
  intro pins s I um
  rw [exec_Assign_Name_used _ _ _ _ hsw]
  refine wpAny_bind (wpAny_standAt (wpAny_bind ?_))
  show wpAny _ X.A (do let _ ← comprehension (.ListComp elt [⟨tg, .Call (.Name x p) (e :: es) [] posc, ifs, 0⟩] scope pos) scope X.env (firstIterPos [⟨tg, .Call (.Name x p) (e :: es) [] posc, ifs, 0⟩] pos) (newList []) false (eval (.Call (.Name x p) (e :: es) [] posc) X.env) (some (assign (.Name y py) X.env))) _ _ s
  refine wpAny_bind (thn (lcG_core (Qf := fun _ s' => SP X pins D .next s' ∧ Um [] s'.gens) hx F hr hg hm hkp hb hd ha hN I um ok hnc hgt ht hel hs q (fun L C s' m H' I' um' q hn f => ?_) hdb he hpl) fun _ s' hq => wpAny_pure (wpAny_pure hq))
  show wpAny _ _ (assign (.Name y py) X.env (.ref L)) _ _ _
  have hst := store_ok2 (M := model X.prog X.w) (A := X.A) (E := fun _ _ => False) (Q := fun _ s2 => Inv X pins (σ.set i (some (V.ref L))) H' s2 ∧ ∃ a, Heap.SameBut a s'.heap s2.heap ∧ (a = X.env.locals ∨ X.env.cells.lookup y = some a)) (v := V.ref L) (u := .ref L) (inv_psn I') hN hy (.inl hyl) rfl (fun s2 I2 h2 => ⟨I2, h2⟩) (.inr hyl)
  refine wpAny_assign_Name (wpAny_mono (up_run (Nat.le_refl _) hst) (fun _ s2 ⟨t2, b2, _, I2, a, sb, ha⟩ => ?_) fun _ _ x => x)
  obtain ⟨f0, f1, f2, f3, f4, f5⟩ := f
  have haC : C ≠ a := by
    rcases ha with z | z
    · rw [z]; exact f1
    · exact fun e => f4 y a z e.symm
  have J2 := inv_back b2 I'.bare I2
  rw [← b2.heap] at sb
  refine ⟨m, hn.sameBut sb haC, fun h3 sb3 => ?_⟩
  exact ⟨⟨_, H', J2.turned (t' := s2.toks) (fun b o hb e => (sb3.2 b hb).trans e) f0 f1 f3 f4 f5, q⟩, b2.um um'⟩
/-- a comparison whose left side runs over the softened model -/
theorem e0_cmp (hx : X.xe = fun _ _ => False) {op : CmpOp} {a b : Expr} {tb : TE} {r : R2} {pos : Pos} (ho : OpR X (compareOp op) r) (hb : PE X b tb) (h : E0 X a σ H fun x H1 => tb σ H1 fun y H2 => r x y H2 Q)
    (h1 : behindInMarks op b = false := by first | exact nobehind _ (by decide) (by decide) | rfl) : E0 X (.Compare a [op] [b] pos) σ H Q := by
  intro pins s I um
  refine wpAny_Compare1 (thn (h pins s I um) fun v s1 ⟨⟨x, H1, I1, r1, q1⟩, um1⟩ => ?_) h1
  have hb1 := hb.run pins (psn s1) σ H1 _ (inv_psn I1) q1
  rw [hx] at hb1
  refine wpAny_mono (up_run (Nat.le_refl _) hb1) (fun u s2 ⟨t2, b2, n2, y, H2, I2, r2, q2⟩ => ?_) fun _ _ x => x
  have ho1 := ho pins (psn s2) σ H2 x y v u Q (inv_psn (inv_back b2 I1.bare I2)) r1 r2 q2
  rw [hx] at ho1
  have bare2 := (inv_back b2 I1.bare I2).bare
  exact wpAny_mono (up_run (Nat.le_refl _) ho1) (fun z s3 ⟨t3, b3, n3, zv, H3, I3, r3, q3⟩ => ⟨⟨zv, H3, inv_back b3 bare2 I3, r3, q3⟩, b3.um (b2.um um1)⟩) fun _ _ x => x
end
end K0
end

section
set_option Elab.async false
set_option linter.all false
set_option maxRecDepth 100000
set_option maxHeartbeats 1000000
namespace K0
open PySem PySem.Spec PyProof.Rows L2 GenW
open Sem (wp)
section
variable {X : Cx} {σ : L2.St} {H : Hp} {Q : VK} {D : Ends} {pos : Pos}
/-- (a, b), over the softened model -/
theorem e0_tup2 {a b : Expr} {x1 : Nat} (h : E0 X a σ H fun v H1 => E0 X b σ H1 fun w H2 => ∀ p, H2 p = none → Q (.ref p) (upd H2 p (.tup [v, w])))
    (hst : starEach [a, b] X.env = [(false, eval a X.env), (false, eval b X.env)] := by rfl) : E0 X (.Tuple [a, b] x1 pos) σ H Q := by
  intro pins s I u
  refine Tuple_ ?_
  rw [hst]
  refine Calls.spliced_cons (thn (h pins s I u) fun u1 s1 ⟨⟨v, H1, I1, rv, q1⟩, um1⟩ => ?_)
  refine Calls.spliced_cons (thn (q1 pins s1 I1 um1) fun u2 s2 ⟨⟨w, H2, I2, rw', q2⟩, um2⟩ => ?_)
  refine Calls.spliced_nil ?_
  refine wpAny_newObj_type ?_ (by show 2 ≤ sizeLine; decide)
  have hf : H2 s2.heap.objs.size = none := I2.hok.fresh (Nat.le_refl _)
  exact ⟨⟨.ref s2.heap.objs.size, upd H2 s2.heap.objs.size (.tup [v, w]), I2.laid (t' := s2.toks) (fun b u e => Heap.get?_push_of_some _ e) (Nat.le_refl _) ⟨by show 2 ≤ sizeLine; decide, [u1, u2], .cons rv (.cons rw' .nil), ⟨_, Heap.get?_push_size _ rfl, rfl, _, rfl⟩⟩, rfl, q2 _ hf⟩, um2⟩
/-- targets = e -/
theorem s0_asg (hx : X.xe = fun _ _ => False) {tg e : Expr} {g : TG} (hg : PG X tg g) (h : E0 X e σ H fun v H1 => g v σ H1 D.nx) (hs : swapsWithSole [tg] e pos.line X.env = pure false := by rfl) (hw : swappedStores [tg] e X.env = pure none := by rfl)
    (h1 : (assignEach [tg] X.env).map (·.2) = [assign tg X.env] := by rfl) : S0 X (.Assign [tg] e pos) σ H D := by
  intro pins s I u
  refine wpAny_Assign_stores (thn (h pins s I u) fun v s1 ⟨⟨x, H1, I1, r1, q1⟩, um1⟩ => ?_) hs hw
  rw [h1]
  have k := hg.run pins (psn s1) σ H1 x v _ (inv_psn I1) r1 q1
  rw [hx] at k
  exact wpAny_mono (up_run (Nat.le_refl _) k) (fun _ s2 ⟨t2, b2, _, σ', H', I', q'⟩ => ⟨⟨σ', H', inv_back b2 I1.bare I', q'⟩, b2.um um1⟩) fun _ _ x => x
end
end K0
end

section
set_option Elab.async false
set_option linter.all false
set_option maxRecDepth 100000
set_option maxHeartbeats 1000000
/-! sets of texts (turned from the kit's sets of whole numbers) -/
namespace L2
open PySem PySem.Spec PyProof.Rows
theorem strKind_is (P : Program) (w : World) (k : Str) (tk : Tok) : (PySem.strKind P w).is k (.str k tk) = true := by
  show Value.isStrOf k (.str k tk) = true
  simp [Value.isStrOf]
/-! ### what a set of ints is -/
def keyS (e : Int × Value) : Str := match e.2 with | .str k _ => k | _ => Str.empty
def GoodS (w : World) (e : Int × Value) : Prop := ∃ k tk, e.2 = Value.str k tk ∧ e.1 = hashStr w k

/-- the set of ints at a: S its members, n their number; its table rises and can be walked -/
def SetS (w : World) (h : Heap) (a : Addr) (S : Str → Bool) (n : Nat) : Prop :=
  ∃ o es ep t, h.get? a = some o ∧ o.ExactSet ∧ o.data = .set es ep t ∧ (∀ e ∈ es.toList, GoodS w e) ∧ (es.toList.map keyS).Nodup ∧ (∀ k, S k = true ↔ k ∈ es.toList.map keyS) ∧
    es.size < scanBound ∧ t.fits es.size = true ∧ es.size = n ∧ Ris t.place.toList ∧ (w.params.followText "set-order" = true ∨ t.led = true)

section
variable {P : Program} {w : World} {h h' : Heap} {a : Addr} {S : Str → Bool} {n : Nat}

theorem SetS.at (R : SetS w h a S n) (k : ∀ o, h.get? a = some o → h'.get? a = some o) : SetS w h' a S n := by
  obtain ⟨o, es, ep, t, ho, r⟩ := R
  exact ⟨o, es, ep, t, k o ho, r⟩
theorem SetS.lt (R : SetS w h a S n) : a < h.objs.size := by
  obtain ⟨o, es, ep, t, ho, r⟩ := R
  exact Heap.lt_size ho
theorem SetS.congr {S' : Str → Bool} (R : SetS w h a S n) (e : ∀ k, S' k = S k) : SetS w h a S' n := by
  have q : S' = S := funext e
  rw [q]; exact R
theorem goodS_elems {l : List (Int × Value)} (g : ∀ e ∈ l, GoodS w e) : ElemsOf (strKind P w) l := fun e he => by
  obtain ⟨k, tk, h1, h2⟩ := g e he
  exact ⟨⟨k, by rw [h1]; exact strKind_is P w k tk, h2⟩, by rw [h1] <;> rfl⟩
theorem goodS_is {e : Int × Value} (g : GoodS w e) (k : Str) : (strKind P w).is k e.2 = true ↔ keyS e = k := by
  obtain ⟨k0, tk, h1, _⟩ := g
  unfold keyS
  rw [h1]
  show (Value.isStrOf k (.str k0 tk) = true) ↔ k0 = k
  simp [Value.isStrOf]
theorem goodS_mem {l : List (Int × Value)} (g : ∀ e ∈ l, GoodS w e) (k : Str) : k ∈ l.map keyS ↔ ∃ e ∈ l, (strKind P w).is k e.2 = true := by
  rw [List.mem_map]
  constructor
  · rintro ⟨e, he, q⟩
    exact ⟨e, he, (goodS_is (g e he) k).2 q⟩
  · rintro ⟨e, he, q⟩
    exact ⟨e, he, (goodS_is (g e he) k).1 q⟩
theorem SetS.setOf (R : SetS w h a S n) : h.SetOf (strKind P w) a S n := by
  obtain ⟨o, es, ep, t, ho, hx, hd, g, nd, hm, hb, hf, hn, _⟩ := R
  exact ⟨o, es, ep, t, ho, hx, hd, goodS_elems g, fun k => (hm k).trans (goodS_mem g k), hb, hf, hn⟩
end

section
variable {P : Program} {w : World} {A : Around} {E : Value → Shared → Prop} {s : Shared} {a : Addr} {S : Str → Bool} {n : Nat}

/-! ### add -/
theorem setS_add_tail {g : Bool → Sem Unit} (hg : ∀ (b : Bool) (s₁ : Shared) (Q' : Unit → Shared → Prop), Q' () s₁ → wpAny (model P w) A (g b) Q' E s₁)
    {o : Obj} {es : Array (Int × Value)} {ep : Nat} {t : SetTable} (ho : s.heap.get? a = some o) (hex : o.ExactSet) (hd : o.data = .set es ep t)
    {es1 : Array (Int × Value)} {t2 : SetTable} {S' : Str → Bool} (g1 : ∀ e ∈ es1.toList, GoodS w e) (nd1 : (es1.toList.map keyS).Nodup) (m1 : ∀ k, S' k = true ↔ k ∈ es1.toList.map keyS)
    (hb1 : es1.size < scanBound) (hf2 : t2.fits es1.size = true) (hr : Ris t2.place.toList) (hl : w.params.followText "set-order" = true ∨ t2.led = true) {wasDummy : Bool} {R : Option Bool → Shared → Prop}
    (hR : ∀ h', Heap.SameBut a s.heap h' → SetS w h' a S' es1.size → R (some true) { s with heap := h' }) :
    wpAny (model P w) A (do
        storeSet a es1 t2
        if (!wasDummy && t2.tooFull) = true then do
            g (relayAll t2 es1 (SetTable.grown es1.size)).2.2
            storeSet a (relayAll t2 es1 (SetTable.grown es1.size)).1 (relayAll t2 es1 (SetTable.grown es1.size)).2.1
            pure (some true)
          else pure (some true)) R E s := by
  refine wpAny_bind (wpAny_storeSet_of ho hd ?_ (fits_of_scanBound hb1))
  have ho1 := store_at (es' := es1) (t' := t2) ho hd
  have sb1 := Heap.SameBut.update s.heap a (Obj.putSet es1 t2)
  split
  · have pm := relayAll_perm t2 es1 (SetTable.grown es1.size)
    have hf3 := relayAll_fits t2 es1 (SetTable.grown es1.size)
    have hr3 := relayAll_ris t2 es1 (SetTable.grown es1.size)
    have hl3 := relayAll_led t2 es1 (SetTable.grown es1.size)
    generalize relayAll t2 es1 (SetTable.grown es1.size) = Z at pm hf3 hr3 hl3 ⊢
    obtain ⟨es2, t3, gave⟩ := Z
    dsimp only at pm hf3 hr3 hl3 ⊢
    have hsz : es2.size = es1.size := by rw [← Array.length_toList, pm.length_eq, Array.length_toList]
    have hb2 : es2.size < scanBound := by rw [hsz]; exact hb1
    refine wpAny_bind (hg _ _ _ ?_)
    refine wpAny_bind (wpAny_storeSet_of ho1 rfl ?_ (fits_of_scanBound hb2))
    have ho2 := store_at (es' := es2) (t' := t3) ho1 rfl
    refine wpAny_pure (hR _ (sb1.trans (Heap.SameBut.update _ a _)) ?_)
    exact ⟨_, es2, _, t3, ho2, hex, rfl, fun e he => g1 e (pm.mem_iff.mp he), (pm.map keyS).nodup_iff.mpr nd1, fun k => (m1 k).trans (pm.map keyS).mem_iff.symm, hb2, hf3, hsz, hr3,
      hl.imp id fun z => by rw [hl3]; exact z⟩
  · exact wpAny_pure (hR _ sb1 ⟨_, es1, _, t2, ho1, hex, rfl, g1, nd1, m1, hb1, hf2, rfl, hr, hl⟩)

theorem setS_add_hashed {k : Str} {tk : Tok} {Q : Bool → Shared → Prop} (R : SetS w s.heap a S n) (room : n + 1 < scanBound)
    (hQ : ∀ h', Heap.SameBut a s.heap h' → SetS w h' a (fun j => S j || decide (j = k)) (if S k = true then n else n + 1) → Q (!S k) { s with heap := h' }) :
    wpAny (model P w) A (setAddHashed a (.str k tk) ((strKind P w).hash k)) Q E s := by
  obtain ⟨o, es, ep, t, ho, hex, hd, g, nd, hm, hb, hf, hn, hr, hl⟩ := R
  have hkey : (strKind P w).is k (.str k tk) = true := strKind_is P w k tk
  have hsc : (Value.str k tk).scannable = true := rfl
  have hel : ElemsOf (strKind P w) es.toList := goodS_elems g
  unfold setAddHashed setAddHashedIn
  refine wpAny_holding (wpAny_bind (wpAny_setState_of ho hd hf ?_))
  dsimp only
  rw [byScan_of hsc hb hel]
  simp only [↓reduceIte]
  unfold setAddByScan
  refine wpAny_bind ?_
  refine wpAny_bind (wpAny_rule ?_)
  refine wpAny_bind (wpAny_setScan_of hkey ho hd hf hel ?_)
  cases hfi : List.findIdx? (fun e => (strKind P w).is k e.2) es.toList with
  | some j =>
    dsimp only
    obtain ⟨hj, pj, _⟩ := List.findIdx?_eq_some_iff_getElem.mp hfi
    have hSk : S k = true := (hm k).2 ((goodS_mem (P := P) (w := w) g k).2 ⟨es.toList[j], List.getElem_mem hj, pj⟩)
    refine wpAny_pure (wpAny_pure ?_)
    have q := hQ s.heap (Heap.SameBut.refl a s.heap) ⟨o, es, ep, t, ho, hex, hd, g, nd, fun i => by
      rw [Bool.or_eq_true, decide_eq_true_eq, ← hm i]
      exact ⟨fun z => z.elim id (fun e => e ▸ hSk), .inl⟩, hb, hf, by rw [if_pos hSk]; exact hn, hr, hl⟩
    rw [hSk] at q
    exact q
  | none =>
    dsimp only
    have hnk : k ∉ es.toList.map keyS := fun z => by
      obtain ⟨e, he, q⟩ := (goodS_mem (P := P) (w := w) g k).1 z
      have c := List.findIdx?_eq_none_iff.mp hfi e he
      rw [q] at c
      cases c
    have hSk : S k = false := by
      cases q : S k with
      | false => rfl
      | true => exact absurd ((hm k).1 q) hnk
    have hgw : ∀ (b : Bool) {s₁ : Shared} {Q' : Unit → Shared → Prop}, Q' () s₁ → wpAny (model P w) A (match b with | true => rule "set.scan.the-table-gave-way" | false => pure ()) Q' E s₁ :=
      fun b s₁ Q' q => by cases b <;> first | exact wpAny_pure q | exact wpAny_rule q
    have pm := layNew_perm t es ((strKind P w).hash k) (.str k tk)
    have hf1 := layNew_fits t es ((strKind P w).hash k) (.str k tk)
    have hr1 := layNew_ris t es ((strKind P w).hash k) (.str k tk) hr
    have hl1 := layNew_led t es ((strKind P w).hash k) (.str k tk)
    generalize layNew t es ((strKind P w).hash k) (.str k tk) = Z at pm hf1 hr1 hl1 ⊢
    obtain ⟨es1, t1, wasDummy, gave⟩ := Z
    dsimp only at pm hf1 hr1 hl1 ⊢
    rw [Array.toList_push] at pm
    have pc : es1.toList.Perm (((strKind P w).hash k, Value.str k tk) :: es.toList) := pm.trans (List.perm_append_singleton _ _)
    have pk : (es1.toList.map keyS).Perm (k :: es.toList.map keyS) := pc.map keyS
    have g1 : ∀ e ∈ es1.toList, GoodS w e := fun e he => by
      rcases List.mem_cons.mp (pc.mem_iff.mp he) with z | z
      · rw [z]; exact ⟨k, tk, rfl, rfl⟩
      · exact g e z
    have nd1 : (es1.toList.map keyS).Nodup := pk.nodup_iff.mpr (List.nodup_cons.mpr ⟨hnk, nd⟩)
    have m1 : ∀ i, (S i || decide (i = k)) = true ↔ i ∈ es1.toList.map keyS := fun i => by
      rw [Bool.or_eq_true, decide_eq_true_eq, hm i, pk.mem_iff, List.mem_cons]
      exact Or.comm
    have hsz : es1.size = n + 1 := by rw [← Array.length_toList, pc.length_eq, List.length_cons, Array.length_toList, hn]
    have hb1 : es1.size < scanBound := by rw [hsz]; exact room
    have hled : w.params.followText "set-order" = true ∨ t1.led = true := hl.imp id fun z => by rw [hl1]; exact z
    have fin : ∀ h', Heap.SameBut a s.heap h' → SetS w h' a (fun j => S j || decide (j = k)) es1.size → Q true { s with heap := h' } := fun h' sb r => by
      have q := hQ h' sb
      rw [hSk] at q
      rw [hsz] at r
      exact q r
    refine wpAny_bind (hgw _ ?_)
    split
    · refine wpAny_bind ?_
      rw [hashByValue_scannable 8 hsc]
      refine wpAny_pure ?_
      refine setS_add_tail ?_ ho hex hd g1 nd1 m1 hb1 ?_ ?_ ?_ ?_
      · intro b s₁ Q' q; cases b <;> first | exact wpAny_pure q | exact wpAny_rule q
      · first | (split <;> first | exact hf1 | exact SetTable.fits_plain_off hf1) | exact hf1
      · first | (split <;> exact hr1) | exact hr1
      · first | (split <;> exact hled) | exact hled
      · intro h' sb r; dsimp only; exact wpAny_pure (fin h' sb r)
    · refine wpAny_bind (wpAny_pure ?_)
      simp only [↓reduceIte]
      refine setS_add_tail ?_ ho hex hd g1 nd1 m1 hb1 hf1 hr1 hled ?_
      · intro b s₁ Q' q; cases b <;> first | exact wpAny_pure q | exact wpAny_rule q
      · intro h' sb r; dsimp only; exact wpAny_pure (fin h' sb r)


end
end L2
end

section
set_option Elab.async false
set_option linter.all false
set_option maxRecDepth 100000
set_option maxHeartbeats 1000000
namespace L2
open PySem PySem.Spec PyProof.Rows

theorem setS_new_at {w : World} {h : Heap} {a : Addr} {ns : List Str} (ho : h.get? a = some { cls := .type "set", dict := none, data := .set #[] 0 (.fresh 0 0 (!w.params.followText "set-order")) }) : SetS w h a (fun j => decide (j ∈ ns.take 0)) 0 :=
  ⟨_, #[], 0, _, ho, ⟨rfl, rfl, rfl⟩, rfl, (fun e he => by simp at he), (by simp), (fun k => by simp), (by decide), (by rfl), rfl, List.Pairwise.nil, by
    show _ ∨ (!w.params.followText "set-order") = true
    cases w.params.followText "set-order"
    · exact .inr rfl
    · exact .inl rfl⟩
section
variable {P : Program} {w : World} {A : Around} {E : Value → Shared → Prop} {s : Shared}
theorem set_update_strs {I : Addr} {fp wr : List Addr} {G : Array GenState → Array GenState → Prop} {n : Nat} {Pv : Nat → Value → Prop} {St : Nat → Shared → Prop} {R : Result → Shared → Prop}
    (W : WalksS P w A.in1 I fp wr G n Pv St) (S : Addr) (hSf : S ∉ fp) (ns : List Str) (hn : n = ns.length) (hb : ns.length + 1 < scanBound) (hval : ∀ i v, Pv i v → ∃ k t, ns[i]? = some k ∧ v = .str k t) :
    ∀ (k i : Nat) (s : Shared), n - i = k → i ≤ n → St i s → (∃ c, c ≤ i ∧ SetS w s.heap S (fun j => decide (j ∈ ns.take i)) c) →
      (∀ s' c, Moved (S :: wr) G s s' → c ≤ n → SetS w s'.heap S (fun j => decide (j ∈ ns)) c → R (.ok (.ret .none)) s') →
      codeAny (model P w) A (.builtin "set.update.loop" ⟨[.ref S, .ref I], []⟩) R s := by
  have hSw : S ∉ wr := fun h => hSf (W.sub _ h)
  have hsub : ∀ b ∈ wr, b ∈ S :: wr := fun b hb => List.mem_cons_of_mem _ hb
  intro k
  induction k with
  | zero =>
    intro i s hk' hi hst ⟨c, hc, hS⟩ hR
    have hin : i = n := by omega
    subst hin
    refine codeAny_builtin F.entry_set_update_loop ?_
    rw [Around.under_plainId F.plain_set_update_loop _]
    show wpAny _ A.in1 (pyNext (.ref I) >>= _) _ _ s
    refine wpAny_bind (W.done s _ _ hst fun s' hm => ?_)
    show wpAny _ A.in1 (ret Value.none) _ _ s'
    have e : ns.take i = ns := List.take_of_length_le (by omega)
    rw [e] at hS
    exact wpAny_pure (hR s' c (hm.mono hsub) hc (hS.at fun o e => hm.heap S o hSw e))
  | succ k ih =>
    intro i s hk' hi hst ⟨c, hc, hS⟩ hR
    have hlt : i < n := by omega
    refine codeAny_builtin F.entry_set_update_loop ?_
    rw [Around.under_plainId F.plain_set_update_loop _]
    show wpAny _ A.in1 (pyNext (.ref I) >>= _) _ _ s
    refine wpAny_bind (W.item i s _ _ hlt hst fun v s' hP hst' hm => ?_)
    obtain ⟨z, t, hz, rfl⟩ := hval i v hP
    have hS' : SetS w s'.heap S (fun j => decide (j ∈ ns.take i)) c := hS.at fun o e => hm.heap S o hSw e
    show wpAny _ A.in1 (holding [Value.str z t] (setAdd S (.str z t)) >>= _) _ _ s'
    refine wpAny_bind (wpAny_holding ?_)
    unfold setAdd
    refine wpAny_holding ?_
    refine wpAny_bind ((strKind P w).pyHash (k := z) (strKind_is P w _ _) ?_)
    refine setS_add_hashed (s := { s' with toks := s'.toks + 1 }) hS' (by omega) fun h' hsb hS2 => ?_
    have hS3 : SetS w h' S (fun j => decide (j ∈ ns.take (i + 1))) (if decide (z ∈ ns.take i) = true then c else c + 1) := hS2.congr fun j => by
      rw [List.take_add_one, hz]
      simp [List.mem_append]
    have hc3 : (if decide (z ∈ ns.take i) = true then c else c + 1) ≤ i + 1 := by
      split <;> omega
    refine wpAny_pure ⟨plainId_quiet F.plain_set_update_loop _, ih (i + 1) _ (by omega) hlt (W.frame _ s' _ _ hst' (Nat.le_succ _) fun b hb o e => ?_) ⟨_, hc3, hS3⟩ fun s'' c2 hm'' hc'' hS'' => ?_⟩
    · rw [hsb.2 b (fun h : b = S => hSf (by rw [← h]; exact hb))]; exact e
    · refine hR s'' c2 (Moved.trans W.gtrans ((hm.mono hsub).then_heap (Nat.le_succ _) fun b o hb e => ?_) hm'') hc'' hS''
      rw [hsb.2 b (fun h : b = S => hb (by rw [h]; exact List.mem_cons_self))]; exact e

set_option maxRecDepth 100000 in
set_option maxHeartbeats 3200000 in
theorem call_set_tupS {l : Addr} {items : Array Value} (ns : List Str) {Q : Value → Shared → Prop} (hh : A.handled = none) (hl : s.heap.IsTuple l items) (hit : StrsAre items.toList ns) (hb : ns.length + 1 < scanBound)
    (h : ∀ (h' : Heap) (tk c : Nat), SetS w h' s.heap.objs.size (fun j => decide (j ∈ ns)) c → c ≤ ns.length → (∀ b o, s.heap.get? b = some o → h'.get? b = some o) → Q (.ref s.heap.objs.size) { s with heap := h', toks := tk }) :
    wpAny (model P w) A (call (.type "set") [.ref l]) Q E s := by
  have hisz : items.size = ns.length := by
    have q := StrsAre.length hit
    rw [Array.length_toList] at q
    exact q
  obtain ⟨c, tl, hmro⟩ := F.called_set.mro
  have hmade := F.called_set.made
  have hsub := F.called_set.sub
  refine wpAny_call (codeAny_of_tree ?_)
  show wpAny _ _ (callAny (.type "set") _) _ _ _
  refine wpAny_pure ⟨Code.quiet_builtin _ (by decide +kernel), codeAny_builtin F.entry_type_call ?_⟩
  rw [Around.under_plain (weight_type_call_type "set" [.ref l] []) rfl]
  have h1 := F.called_set.notType
  have h2 := F.called_set.canCreate
  have hct := F.typeCall_set_1 (.ref l)
  repeat (any_goals (first | assumption | wp_step))

  refine codeAny_mono (code_set_led1 (.ref l) (E := E) (Q₁ := fun obj s₁ => obj = .ref s.heap.objs.size ∧ s₁ = { s with heap := s.heap.push { cls := .type "set", dict := none, data := .set #[] 0 (.fresh 0 0 (!w.params.followText "set-order")) } }) ⟨rfl, rfl⟩) fun r s₁ hr => ?_
  cases r with
  | error e => exact hr
  | ok fl =>
    cases fl with
    | ret obj =>
      obtain ⟨rfl, rfl⟩ := hr
      have hS : (s.heap.push { cls := .type "set", dict := none, data := .set #[] 0 (.fresh 0 0 (!w.params.followText "set-order")) }).get? s.heap.objs.size = some { cls := .type "set", dict := none, data := .set #[] 0 (.fresh 0 0 (!w.params.followText "set-order")) } := Heap.get?_push_size _ rfl
      have hT : Shared.TypeIs { s with heap := s.heap.push { cls := .type "set", dict := none, data := .set #[] 0 (.fresh 0 0 (!w.params.followText "set-order")) } } (.ref s.heap.objs.size) "set" := ⟨_, hS, rfl⟩
      have hli := F.called_set.init.lookup
      have hbi := F.called_set.init.bind (.ref s.heap.objs.size)
      repeat (any_goals (first | assumption | wp_step))

      refine codeAny_mono (codeAny_call_builtin (R := wants (fun r s₂ => r = .none ∧ ∃ h' tk c, s₂ = { s with heap := h', toks := tk } ∧ SetS w h' s.heap.objs.size (fun j => decide (j ∈ ns)) c ∧ c ≤ ns.length ∧
          (∀ b o, s.heap.get? b = some o → h'.get? b = some o)) E) F.called_set.init.plain F.entry_set_init (check_set_init_1 hT ?_)) fun r₂ s₂ hr₂ => ?_
      · obtain ⟨ol, hol, hcl, nl, hdl⟩ := hl
        obtain ⟨ocls, odict, odata, oslots⟩ := ol
        simp only at hcl hdl
        subst hcl; subst hdl
        have hol' : (s.heap.push { cls := .type "set", dict := none, data := .set #[] 0 (.fresh 0 0 (!w.params.followText "set-order")) }).get? l = some { cls := .type "tuple", dict := odict, data := .seq items nl, slots := oslots } := Heap.get?_push_of_some _ hol
        have hsls := F.sub_tuple_set
        have hslf := F.sub_tuple_frozenset
        have hne : (Value.type "tuple" == Value.type "dict") = false := by decide
        have hl1 : (s.heap.push { cls := .type "set", dict := none, data := .set #[] 0 (.fresh 0 0 (!w.params.followText "set-order")) }).IsTuple l items := ⟨_, hol', rfl, nl, rfl⟩
        unfold Builtin.«set.__init__» noKeywords Builtin.Frozenset.updateFrom
        generalize hPI : pyIter = PI
        wp_walk
        subst hPI

        refine wpAny_pyIter_tuple hl1 ?_
        refine wpAny_bind (wpAny_runValue ?_)
        have hlS : l < s.heap.objs.size := Heap.lt_size hol
        have hh3 : A.in1.in1.in1.handled = none := by simp [hh]
        have hz1 : (s.heap.push { cls := .type "set", dict := none, data := .set #[] 0 (.fresh 0 0 (!w.params.followText "set-order")) }).objs.size = s.heap.objs.size + 1 := Heap.size_push ..
        have hneI : l ≠ (s.heap.push { cls := .type "set", dict := none, data := .set #[] 0 (.fresh 0 0 (!w.params.followText "set-order")) }).objs.size := by
          rw [Heap.size_push]; exact Nat.ne_of_lt (Nat.lt_succ_of_lt hlS)
        have hSf : s.heap.objs.size ∉ [(s.heap.push { cls := .type "set", dict := none, data := .set #[] 0 (.fresh 0 0 (!w.params.followText "set-order")) }).objs.size, l] := by
          rw [Heap.size_push]; simp only [List.mem_cons, List.mem_singleton, List.not_mem_nil, or_false, not_or]
          exact ⟨Nat.ne_of_lt (Nat.lt_succ_self _), Nat.ne_of_gt hlS⟩
        have hval : ∀ (i : Nat) (v : Value), items[i]? = some v → ∃ k t, ns[i]? = some k ∧ v = .str k t := fun i v hv => by
          have hi : i < ns.length := by rw [← hisz]; exact (Array.getElem?_eq_some_iff.mp hv).1
          obtain ⟨t, e⟩ := SS.strs_at hit i v (by rw [Array.getElem?_toList]; exact hv)
          refine ⟨ns[i], t, List.getElem?_eq_getElem hi, ?_⟩
          rw [e, List.getD_eq_getElem?_getD, List.getElem?_eq_getElem hi] <;> rfl
        refine set_update_strs ((Walks.tuple hh3 _ l hneI items).toS) s.heap.objs.size
          hSf ns hisz hb hval (items.size - 0) 0 _ (by omega) (Nat.zero_le _)
          ⟨⟨_, Heap.get?_push_size _ rfl, rfl, rfl⟩, (hl1.push _)⟩ ?hS0 ?hR
        case hS0 =>
          have hget : ((s.heap.push { cls := .type "set", dict := none, data := .set #[] 0 (.fresh 0 0 (!w.params.followText "set-order")) }).push { cls := .type "tuple_iterator", data := .fields #[.ref l, .int 0 0] }).get? s.heap.objs.size
              = some { cls := .type "set", dict := none, data := .set #[] 0 (.fresh 0 0 (!w.params.followText "set-order")) } := Heap.get?_push_of_some _ hS
          exact ⟨0, Nat.le_refl 0, setS_new_at hget⟩
        case hR =>
          intro s' c' hm hc' hS'
          obtain ⟨h', g2, d', tk', os'⟩ := s'
          have eg : g2 = s.gens := hm.gens
          have ed : d' = s.drawn := hm.drawn
          have eo : os' = s.os := hm.os
          subst eg; subst ed; subst eo
          show wpAny _ _ _ _ _ _
          refine wpAny_pure ?_
          show wpAny _ _ (ret Value.none) _ _ _
          rw [hisz] at hc'
          refine wpAny_pure ⟨rfl, h', tk', c', rfl, hS', hc', fun b o e => ?_⟩
          have hb0 : b < s.heap.objs.size := Heap.lt_size e
          have hb1 : b ≠ s.heap.objs.size := Nat.ne_of_lt hb0
          have hb2 : b ≠ (s.heap.push { cls := .type "set", dict := none, data := .set #[] 0 (.fresh 0 0 (!w.params.followText "set-order")) }).objs.size := by
            rw [Heap.size_push]; exact Nat.ne_of_lt (Nat.lt_succ_of_lt hb0)
          exact hm.heap b o (by simp only [List.mem_cons, List.mem_singleton, List.not_mem_nil, or_false, not_or]; exact ⟨hb1, hb2⟩) (Heap.get?_push_of_some _ (Heap.get?_push_of_some _ e))

      · cases r₂ with
        | error e => exact hr₂
        | ok fl₂ =>
          cases fl₂ with
          | ret r =>
            obtain ⟨rfl, h', tk, c', rfl, hS', hc', hk'⟩ := hr₂
            repeat (any_goals (first | assumption | wp_step))
            exact h _ _ _ hS' hc' hk'
          | _ => exact hr₂.elim
    | _ => exact hr.elim


set_option maxRecDepth 100000 in
set_option maxHeartbeats 3200000 in
theorem call_set_lstS {l : Addr} {items : Array Value} (ns : List Str) {Q : Value → Shared → Prop} (hh : A.handled = none) (hl : s.heap.IsList l items) (hit : StrsAre items.toList ns) (hb : ns.length + 1 < scanBound)
    (h : ∀ (h' : Heap) (tk c : Nat), SetS w h' s.heap.objs.size (fun j => decide (j ∈ ns)) c → c ≤ ns.length → (∀ b o, s.heap.get? b = some o → h'.get? b = some o) → Q (.ref s.heap.objs.size) { s with heap := h', toks := tk }) :
    wpAny (model P w) A (call (.type "set") [.ref l]) Q E s := by
  have hisz : items.size = ns.length := by
    have q := StrsAre.length hit
    rw [Array.length_toList] at q
    exact q
  obtain ⟨c, tl, hmro⟩ := F.called_set.mro
  have hmade := F.called_set.made
  have hsub := F.called_set.sub
  refine wpAny_call (codeAny_of_tree ?_)
  show wpAny _ _ (callAny (.type "set") _) _ _ _
  refine wpAny_pure ⟨Code.quiet_builtin _ (by decide +kernel), codeAny_builtin F.entry_type_call ?_⟩
  rw [Around.under_plain (weight_type_call_type "set" [.ref l] []) rfl]
  have h1 := F.called_set.notType
  have h2 := F.called_set.canCreate
  have hct := F.typeCall_set_1 (.ref l)
  repeat (any_goals (first | assumption | wp_step))

  refine codeAny_mono (code_set_led1 (.ref l) (E := E) (Q₁ := fun obj s₁ => obj = .ref s.heap.objs.size ∧ s₁ = { s with heap := s.heap.push { cls := .type "set", dict := none, data := .set #[] 0 (.fresh 0 0 (!w.params.followText "set-order")) } }) ⟨rfl, rfl⟩) fun r s₁ hr => ?_
  cases r with
  | error e => exact hr
  | ok fl =>
    cases fl with
    | ret obj =>
      obtain ⟨rfl, rfl⟩ := hr
      have hS : (s.heap.push { cls := .type "set", dict := none, data := .set #[] 0 (.fresh 0 0 (!w.params.followText "set-order")) }).get? s.heap.objs.size = some { cls := .type "set", dict := none, data := .set #[] 0 (.fresh 0 0 (!w.params.followText "set-order")) } := Heap.get?_push_size _ rfl
      have hT : Shared.TypeIs { s with heap := s.heap.push { cls := .type "set", dict := none, data := .set #[] 0 (.fresh 0 0 (!w.params.followText "set-order")) } } (.ref s.heap.objs.size) "set" := ⟨_, hS, rfl⟩
      have hli := F.called_set.init.lookup
      have hbi := F.called_set.init.bind (.ref s.heap.objs.size)
      repeat (any_goals (first | assumption | wp_step))

      refine codeAny_mono (codeAny_call_builtin (R := wants (fun r s₂ => r = .none ∧ ∃ h' tk c, s₂ = { s with heap := h', toks := tk } ∧ SetS w h' s.heap.objs.size (fun j => decide (j ∈ ns)) c ∧ c ≤ ns.length ∧
          (∀ b o, s.heap.get? b = some o → h'.get? b = some o)) E) F.called_set.init.plain F.entry_set_init (check_set_init_1 hT ?_)) fun r₂ s₂ hr₂ => ?_
      · obtain ⟨ol, hol, hcl, nl, hdl⟩ := hl
        obtain ⟨ocls, odict, odata, oslots⟩ := ol
        simp only at hcl hdl
        subst hcl; subst hdl
        have hol' : (s.heap.push { cls := .type "set", dict := none, data := .set #[] 0 (.fresh 0 0 (!w.params.followText "set-order")) }).get? l = some { cls := .type "list", dict := odict, data := .seq items nl, slots := oslots } := Heap.get?_push_of_some _ hol
        have hsls := F.sub_list_set
        have hslf := F.sub_list_frozenset
        have hne : (Value.type "list" == Value.type "dict") = false := by decide
        have hl1 : (s.heap.push { cls := .type "set", dict := none, data := .set #[] 0 (.fresh 0 0 (!w.params.followText "set-order")) }).IsList l items := ⟨_, hol', rfl, nl, rfl⟩
        unfold Builtin.«set.__init__» noKeywords Builtin.Frozenset.updateFrom
        generalize hPI : pyIter = PI
        wp_walk
        subst hPI

        refine wpAny_pyIter_list hl1 ?_
        refine wpAny_bind (wpAny_runValue ?_)
        have hlS : l < s.heap.objs.size := Heap.lt_size hol
        have hh3 : A.in1.in1.in1.handled = none := by simp [hh]
        have hz1 : (s.heap.push { cls := .type "set", dict := none, data := .set #[] 0 (.fresh 0 0 (!w.params.followText "set-order")) }).objs.size = s.heap.objs.size + 1 := Heap.size_push ..
        have hneI : l ≠ (s.heap.push { cls := .type "set", dict := none, data := .set #[] 0 (.fresh 0 0 (!w.params.followText "set-order")) }).objs.size := by
          rw [Heap.size_push]; exact Nat.ne_of_lt (Nat.lt_succ_of_lt hlS)
        have hSf : s.heap.objs.size ∉ [(s.heap.push { cls := .type "set", dict := none, data := .set #[] 0 (.fresh 0 0 (!w.params.followText "set-order")) }).objs.size, l] := by
          rw [Heap.size_push]; simp only [List.mem_cons, List.mem_singleton, List.not_mem_nil, or_false, not_or]
          exact ⟨Nat.ne_of_lt (Nat.lt_succ_self _), Nat.ne_of_gt hlS⟩
        have hval : ∀ (i : Nat) (v : Value), items[i]? = some v → ∃ k t, ns[i]? = some k ∧ v = .str k t := fun i v hv => by
          have hi : i < ns.length := by rw [← hisz]; exact (Array.getElem?_eq_some_iff.mp hv).1
          obtain ⟨t, e⟩ := SS.strs_at hit i v (by rw [Array.getElem?_toList]; exact hv)
          refine ⟨ns[i], t, List.getElem?_eq_getElem hi, ?_⟩
          rw [e, List.getD_eq_getElem?_getD, List.getElem?_eq_getElem hi] <;> rfl
        refine set_update_strs ((Walks.list hh3 _ l hneI items).toS) s.heap.objs.size
          hSf ns hisz hb hval (items.size - 0) 0 _ (by omega) (Nat.zero_le _)
          ⟨⟨_, Heap.get?_push_size _ rfl, rfl, rfl⟩, (hl1.push _)⟩ ?hS0 ?hR
        case hS0 =>
          have hget : ((s.heap.push { cls := .type "set", dict := none, data := .set #[] 0 (.fresh 0 0 (!w.params.followText "set-order")) }).push { cls := .type "list_iterator", data := .fields #[.ref l, .int 0 0] }).get? s.heap.objs.size
              = some { cls := .type "set", dict := none, data := .set #[] 0 (.fresh 0 0 (!w.params.followText "set-order")) } := Heap.get?_push_of_some _ hS
          exact ⟨0, Nat.le_refl 0, setS_new_at hget⟩
        case hR =>
          intro s' c' hm hc' hS'
          obtain ⟨h', g2, d', tk', os'⟩ := s'
          have eg : g2 = s.gens := hm.gens
          have ed : d' = s.drawn := hm.drawn
          have eo : os' = s.os := hm.os
          subst eg; subst ed; subst eo
          show wpAny _ _ _ _ _ _
          refine wpAny_pure ?_
          show wpAny _ _ (ret Value.none) _ _ _
          rw [hisz] at hc'
          refine wpAny_pure ⟨rfl, h', tk', c', rfl, hS', hc', fun b o e => ?_⟩
          have hb0 : b < s.heap.objs.size := Heap.lt_size e
          have hb1 : b ≠ s.heap.objs.size := Nat.ne_of_lt hb0
          have hb2 : b ≠ (s.heap.push { cls := .type "set", dict := none, data := .set #[] 0 (.fresh 0 0 (!w.params.followText "set-order")) }).objs.size := by
            rw [Heap.size_push]; exact Nat.ne_of_lt (Nat.lt_succ_of_lt hb0)
          exact hm.heap b o (by simp only [List.mem_cons, List.mem_singleton, List.not_mem_nil, or_false, not_or]; exact ⟨hb1, hb2⟩) (Heap.get?_push_of_some _ (Heap.get?_push_of_some _ e))

      · cases r₂ with
        | error e => exact hr₂
        | ok fl₂ =>
          cases fl₂ with
          | ret r =>
            obtain ⟨rfl, h', tk, c', rfl, hS', hc', hk'⟩ := hr₂
            repeat (any_goals (first | assumption | wp_step))
            exact h _ _ _ hS' hc' hk'
          | _ => exact hr₂.elim
    | _ => exact hr.elim


end
end L2
end

section
set_option Elab.async false
set_option linter.all false
set_option maxRecDepth 100000
set_option maxHeartbeats 1000000
/-! set(xs), len and sorted of it, for texts -/
namespace L2
open PySem PySem.Spec PyProof.Rows
theorem strs_of : ∀ (l : List Value), (∀ v ∈ l, ∃ k tk, v = Value.str k tk) → StrsAre l (l.map strOf)
  | [], _ => .nil
  | v :: l, h => by
    obtain ⟨k, tk, rfl⟩ := h v List.mem_cons_self
    exact .cons k tk (strs_of l fun u hu => h u (List.mem_cons_of_mem _ hu))
section
variable {P : Program} {w : World} {A : Around} {E : Value → Shared → Prop} {s : Shared} {a : Addr}
theorem list_sort_strs {a : Addr} {vs : List Value} {ss : List Str} {n : Nat} {Pp : Fin → Shared → Prop} (ho : s.heap.get? a = some (seqObj "list" vs.toArray n)) (hS : StrsAre vs ss) (h64 : vs.length < 64)
    (h : ∀ (out : Array Value) (ss' : List Str), StrsAre out.toList ss' → ss'.Perm ss → sortedS ss' = true → Pp (.done (.ret .none)) { s with heap := sortedHeap s.heap a vs out }) :
    wpAny (model P w) A (Builtin.«list.sort» ⟨[.ref a], []⟩) Pp E s := by
  refine list_sort_treeK strKind_oneLt ho hS.keysOf (fun v₁ v₂ rest e => keyKind_strs (by rw [← e]; exact hS)) h64 fun st' hp hs => ?_
  obtain ⟨ss', h1, h2, h3⟩ := sorted_out_str hS hp hs
  exact h _ ss' h1 h2 h3
theorem sorted_setS {S : Str → Bool} {n : Nat} {Q : Value → Shared → Prop} (R : SetS w s.heap a S n) (hh : A.handled = none) (h64 : n < 64)
    (hQ : ∀ s' p (out : Array Value) (c : Nat) (ns : List Str), (∀ b o, s.heap.get? b = some o → s'.heap.get? b = some o) → s'.gens = s.gens → s'.os = s.os → s.heap.objs.size ≤ p →
      s'.heap.get? p = some (seqObj "list" out c) → StrsAre out.toList ns → sortedS ns = true → ns.Nodup → (∀ k, k ∈ ns ↔ S k = true) → ns.length = n → Q (.ref p) s') :
    wpAny (model P w) A (call (.builtin "sorted") [.ref a]) Q E s := by
  obtain ⟨o, es, ep, t, ho, hex, hd, g, nd, hm, hb, hf, hn, hr, hl⟩ := R
  refine Calls.call_function_entry kind_sorted plain_sorted entry_sorted (args_sorted1 _) ?_
  unfold Builtin.«sorted»
  refine wpAny_bind (m := checkCount "sorted" 1 1 _) (wpAny_pure ?_)
  refine wpAny_bind (collect_set (A := A.in1) hh ⟨o, ho, hex.1, hd⟩ hf hb hr hl fun s1 vs k1 hz g1 o1 pm => ?_)
  have hvl : vs.length = n := by rw [pm.length_eq, List.length_map, Array.length_toList]; exact hn
  have hI : StrsAre vs (vs.map strOf) := strs_of vs fun v hv => by
    obtain ⟨e, he, q⟩ := List.mem_map.mp (pm.mem_iff.mp hv)
    obtain ⟨k, tk, h1, _⟩ := g e he
    exact ⟨k, tk, by rw [← q]; exact h1⟩
  have pk : (vs.map strOf).Perm (es.toList.map keyS) := by
    have q := pm.map strOf
    rw [List.map_map] at q
    have e : es.toList.map (strOf ∘ fun x => x.2) = es.toList.map keyS := List.map_congr_left fun e he => by
      obtain ⟨k, tk, h1, _⟩ := g e he
      show strOf e.2 = keyS e
      unfold keyS
      rw [h1]
      rfl
    rw [e] at q
    exact q
  refine wpAny_bind (wpAny_newList ?_ (by rw [hvl, sizeLine_eq]; omega))
  have hoL : (s1.heap.push (seqObj "list" vs.toArray 0)).get? s1.heap.objs.size = some (seqObj "list" vs.toArray 0) := Heap.get?_push_size _ rfl
  refine wpAny_bind (wpAny_holding (wpAny_call_entry slot_list_sort ⟨_, hoL, rfl⟩ entry_list_sort (list_sort_strs hoL hI (by rw [hvl]; exact h64) fun out ns' a1 a2 a3 => ⟨_, rfl, ?_⟩) (args_list_sort _)))
  obtain ⟨c, hc⟩ := sortedHeap_at (vs := vs) (out := out) hoL
  have pn : ns'.Perm (es.toList.map keyS) := a2.trans pk
  refine wpAny_pure ⟨_, rfl, hQ _ s1.heap.objs.size out c ns' (fun b u e => ?_) g1 o1 hz hc a1 a3 (pn.nodup_iff.mpr nd) (fun k => by rw [pn.mem_iff, ← hm k]) ?_⟩
  · have q := k1 b u e
    have hlt := Heap.lt_size q
    show (sortedHeap (s1.heap.push (seqObj "list" vs.toArray 0)) s1.heap.objs.size vs out).get? b = some u
    rw [sortedHeap_old (Nat.ne_of_lt hlt) (by rw [size_push']; exact Nat.lt_succ_of_lt hlt)]
    exact Heap.get?_push_of_some _ q
  · rw [pn.length_eq, List.length_map, Array.length_toList]; exact hn
end
/-- the set of the texts ns -/
def SetSO (w : World) (a : Addr) (ns : List Str) : HO := .ext fun h => ∃ n, n ≤ ns.length ∧ SetS w h a (fun j => decide (j ∈ ns)) n
theorem SetS.ob {w : World} {h : Heap} {a : Addr} {S : Str → Bool} {n : Nat} (R : SetS w h a S n) : ∃ o, h.get? a = some o := by obtain ⟨o, _, _, _, e, _⟩ := R; exact ⟨o, e⟩
theorem setSO_new {w : World} {P : Program} {H : Hp} {h : Heap} {a : Addr} {ns : List Str} {n : Nat} (R : SetS w h a (fun j => decide (j ∈ ns)) n) (hn : n ≤ ns.length) : ObjOk P w H h a (SetSO w a ns) :=
  ⟨⟨n, hn, R⟩, R.ob, fun h1 h2 ⟨n, hn, p⟩ k => ⟨n, hn, p.at k⟩⟩
section
variable {X : Cx}
def rSetS (w : World) (K : PySem.W.Frag) : List V → Hp → VK → Prop := fun vs H Q => ∃ (a : Addr) (ns : List Str), vs = [V.ref a] ∧ (SqL K H a (ns.map V.str) ∨ SqT K H a (ns.map V.str)) ∧ ns.length + 1 < scanBound ∧ ∀ p, H p = none → Q (.ref p) (upd H p (SetSO w p ns))
theorem cr_setS (hc : X.calm = true) : CallR X (.type "set") (rSetS X.w X.K) := by
  intro pins s σ H vs us Q I r h
  obtain ⟨a, ns, rfl, hs, hb, q⟩ := h
  rw [Vals.ref1 r]
  have fin : ∀ (h' : Heap) (tk c : Nat), SetS X.w h' s.heap.objs.size (fun j => decide (j ∈ ns)) c → c ≤ ns.length → (∀ b o, s.heap.get? b = some o → h'.get? b = some o) → EP X pins σ Q (.ref s.heap.objs.size) { s with heap := h', toks := tk } := fun h' tk c R hc k =>
    ⟨.ref s.heap.objs.size, upd H s.heap.objs.size (SetSO X.w s.heap.objs.size ns), I.laid k (Nat.le_refl _) (setSO_new R hc), rfl, q _ (I.hok.fresh (Nat.le_refl _))⟩
  rcases hs with hs | hs
  · obtain ⟨its, rv, hl, _⟩ := I.list hs
    exact call_set_lstS ns (I.ok.hd hc) hl.isList rv.strs hb fin
  · obtain ⟨its, rv, hl, _⟩ := I.tuple hs
    exact call_set_tupS ns (I.ok.hd hc) (show s.heap.IsTuple a its.toArray from hl) rv.strs hb fin
def rLenS (w : World) : List V → Hp → VK → Prop := fun vs H Q => ∃ (a : Addr) (ns : List Str), vs = [V.ref a] ∧ H a = some (SetSO w a ns) ∧ ∀ us : List Str, us.Nodup → (∀ k, k ∈ us ↔ k ∈ ns) → Q (.int us.length) H
theorem cr_lenS : CallR X (.builtin "len") (rLenS X.w) := by
  intro pins s σ H vs us Q I r h
  obtain ⟨a, ns, rfl, ha, q⟩ := h
  rw [Vals.ref1 r]
  obtain ⟨n, hn, o, es, ep, t, ho, hex, hd, g, nd, hm, hb, hf, hsz, hr, hl⟩ := (I.hok a _ ha).1
  refine call_len_set ho hex hd hf (by
    have : es.size < 2 ^ 62 := Nat.lt_trans hb (by decide)
    omega) ⟨.int es.size, H, (I.tok _).tok _, ⟨_, rfl⟩, ?_⟩
  have := q (es.toList.map keyS) nd fun k => by rw [← hm k]; simp
  simpa using this
def rSortedSetS (w : World) : List V → Hp → VK → Prop := fun vs H Q => ∃ (a : Addr) (ns : List Str), vs = [V.ref a] ∧ H a = some (SetSO w a ns) ∧ ns.length < 64 ∧
  ∀ (us : List Str) (p : Addr), us.Nodup → sortedS us = true → (∀ k, k ∈ us ↔ k ∈ ns) → H p = none → Q (.ref p) (upd H p (.lst (us.map V.str)))
theorem cr_sortedSetS (hc : X.calm = true) : CallR X (.builtin "sorted") (rSortedSetS X.w) := by
  intro pins s σ H vs us Q I r h
  obtain ⟨a, ns, rfl, ha, h64, q⟩ := h
  rw [Vals.ref1 r]
  obtain ⟨n, hn, R⟩ := (I.hok a _ ha).1
  refine sorted_setS R (I.ok.hd hc) (by omega) fun s' p out c us k g o hp hg hi hs hnd hm hl => ?_
  have hlen : (us.map V.str).length ≤ sizeLine := by rw [List.length_map, hl, sizeLine_eq]; omega
  have hn' : H p = none := I.hok.fresh hp
  have J : Inv X pins σ (upd H p (.lst (us.map V.str))) { s with heap := s'.heap, gens := s'.gens, drawn := s'.drawn, toks := s'.toks } :=
    I.call (ch := []) (Un.laid k hp hn') (I.hok.laid k hp ⟨hlen, out.toList, c, vals_of_strs hi, hg⟩) (by rw [g]; exact I.bare) (fun _ z => nomatch z)
  have e : s' = { s with heap := s'.heap, gens := s'.gens, drawn := s'.drawn, toks := s'.toks } := by
    cases s'
    cases s
    cases o
    rfl
  rw [e]
  exact ⟨.ref p, _, J, rfl, q us p hnd hs (fun k => by rw [hm k]; simp) hn'⟩
end
end L2
end

section
set_option Elab.async false
set_option linter.all false
set_option maxRecDepth 100000
set_option maxHeartbeats 1000000
/-! enumerate of a tuple, of a list -/
namespace PySem
open Sem (wp)
open AutoSeq1 (wpAny_loadPart')
theorem meets_enumerate_newT (l : Addr) (items : Array Value) (n : Nat) (dct : Option Addr) (sl : Array (Option Value)) :
    Meets (Builtin.«enumerate.__new__» ⟨[.type "enumerate", .ref l], []⟩) (fun _ R s => s.heap.get? l = some { cls := .type "tuple", dict := dct, data := .seq items n, slots := sl } ∧
      R (.ok (.ret (.ref (s.heap.push { cls := .type "tuple_iterator", data := .fields #[.ref l, .int 0 0] }).objs.size)))
        { s with heap := (s.heap.push { cls := .type "tuple_iterator", data := .fields #[.ref l, .int 0 0] }).push { cls := .type "enumerate", data := .fields #[.none, .bool false, .ref s.heap.objs.size, rawInt 0, .none, .none] } }) :=
  .of_wp fun prog w A R s h => by
    obtain ⟨hp, g, d, tk, os⟩ := s; obtain ⟨hl, h⟩ := h
    have hsub := sub_enumerate
    have hL : Heap.IsTuple (Shared.heap ⟨hp, g, d, tk, os⟩) l items := ⟨_, hl, rfl, n, rfl⟩
    wp_walk using wpAny_loadPart' hl
    refine wpAny_stack_any fun st => wpAny_pure ?_
    split
    · rename_i c _ _ _ _ _
      cases (c == Value.type "enumerate")
      · wp_walk using wpAny_loadPart' hl, wpAny_pyIter_tuple hL
        exact ⟨_, rfl, h⟩
      · wp_walk using wpAny_loadPart' hl, wpAny_pyIter_tuple hL
        exact ⟨_, rfl, h⟩
    · wp_walk using wpAny_loadPart' hl, wpAny_pyIter_tuple hL
      exact ⟨_, rfl, h⟩
section
variable {prog : Program} {w : World} {A : Around} {E : Value → Shared → Prop} {s : Shared}
theorem call_enumerate_tup {l : Addr} {items : Array Value} {Q : Value → Shared → Prop} (hL : s.heap.IsTuple l items)
    (h : ∀ h', IsEnum h' (s.heap.objs.size + 1) s.heap.objs.size 0 .none → h'.IsTupleIter s.heap.objs.size l 0 → h'.objs.size = s.heap.objs.size + 2 →
      (∀ b o, s.heap.get? b = some o → h'.get? b = some o) → Q (.ref (s.heap.objs.size + 1)) { s with heap := h' }) :
    wpAny (model prog w) A (call (.type "enumerate") [.ref l]) Q E s := by
  obtain ⟨⟨c, dct, dt, sl⟩, hl, hc, n, hd⟩ := hL
  replace hc : c = .type "tuple" := hc
  replace hd : dt = .seq items n := hd
  subst hc hd
  refine callType_new F.called_enumerate (by decide) (F.typeCall_enumerate_1 _) (F.newCall_enumerate_1 _) (fun obj => F.args_object_init_2 obj _) F.entry_enumerate_new
    (meets_enumerate_newT l items n dct sl) ⟨hl, ?_⟩
  have hz : (s.heap.push { cls := .type "tuple_iterator", data := .fields #[.ref l, .int 0 0] }).objs.size = s.heap.objs.size + 1 := Heap.size_push ..
  show _ ∧ _
  rw [hz]
  have he : IsEnum ((s.heap.push { cls := .type "tuple_iterator", data := .fields #[.ref l, .int 0 0] }).push
      { cls := .type "enumerate", data := .fields #[.none, .bool false, .ref s.heap.objs.size, rawInt 0, .none, .none] }) (s.heap.objs.size + 1) s.heap.objs.size 0 .none := by
    have := Heap.get?_push_size (s.heap.push { cls := .type "tuple_iterator", data := .fields #[.ref l, .int 0 0] })
      (o := { cls := .type "enumerate", data := .fields #[.none, .bool false, .ref s.heap.objs.size, rawInt 0, .none, .none] }) rfl
    rw [hz] at this; exact this
  refine ⟨⟨_, he, rfl⟩, h _ he ⟨_, Heap.get?_push_of_some _ (Heap.get?_push_size _ rfl), rfl, rfl⟩ (by rw [Heap.size_push, hz]) fun b o x => Heap.get?_push_of_some _ (Heap.get?_push_of_some _ x)⟩
end
end PySem
namespace L2
open PySem PySem.Spec PyProof.Rows
/-- the tuple at a, each item in a new pair -/
def Itet (K : PySem.W.Frag) (a : Addr) : It :=
  ⟨fun i H => ∃ (xs : List V) (x : V), SqT K H a xs ∧ xs[i]? = some x, fun i H v H' => ∃ T x, v = .ref T ∧ H T = none ∧ H' = upd H T (.tup [.int (i : Nat), x]) ∧ ∀ xs, SqT K H a xs → xs[i]? = some x, fun i H => ∃ xs : List V, SqT K H a xs ∧ xs.length = i⟩
theorem turn_enumT {P : Program} {w : World} {K : PySem.W.Frag} {elts : List Expr} {kk : Nat} {tpos : Pos} (a e it : Addr) (hai : a ≠ it) (hea : e ≠ a) :
    Turn P w K (.Tuple elts kk tpos) (Itet K a) [e, it] e (fun i h => (∃ old, IsEnum h e it ((i : Nat) : Int) old) ∧ h.IsTupleIter it a i ∧ e ≠ it) where
  mem := by simp
  obj := fun i h st b hb => by
    obtain ⟨⟨old, he⟩, ⟨o, ho, hc, hd⟩, _⟩ := st
    have e' : b = e ∨ b = it := by simpa using hb
    rcases e' with z | z
    · rw [z]; exact ⟨_, he, fun v q => nomatch q⟩
    · rw [z]; exact ⟨o, ho, fun v q => by rw [hd] at q; cases q⟩
  keep := fun i h h' st k => let ⟨⟨old, he⟩, hi, hne⟩ := st; ⟨⟨old, k e (by simp) _ he⟩, hi.at fun o q => k it (by simp) o q, hne⟩
  item := by
    intro X hP hw hK hc i pins s σ H E I hf st hg
    subst hP hw hK
    obtain ⟨⟨old, he⟩, hit, hne⟩ := st
    obtain ⟨xs, x, hq, hx⟩ := hg
    obtain ⟨its, rv, p, hz⟩ := I.tuple hq
    obtain ⟨u, hu, ru⟩ := rv.get hx
    have hel : e < s.heap.objs.size := Heap.lt_size he
    have hil : it < s.heap.objs.size := by obtain ⟨_, q, _⟩ := hit; exact Heap.lt_size q
    have hi : i < its.toArray.size := by
      have := (List.getElem?_eq_some_iff.mp hu).1
      simpa using this
    refine wpAny_pyNext_enum_itemD (Draws.tuple (A := X.A.in1) (I.ok.hd hc) it a hai its.toArray) he ⟨hit, p⟩ hi hne (by simp [hne, hea]) fun y h' tk hy ho hit' hT hsz hk => ?_
    have hy : its[i]? = some y := by simpa using hy
    rw [hu] at hy
    obtain rfl := Option.some.inj hy
    refine ⟨_, rfl, wpAny_letOwnedTupleGo_enum (s := { s with heap := h', toks := tk + 1 }) ho fun h'' he' sb => ?_⟩
    have hT2 : h''.get? s.heap.objs.size = some { cls := .type "tuple", data := .seq #[.int i tk, u] } := (sb.2 _ (Nat.ne_of_gt hel)).trans hT
    have new : ObjOk X.prog X.w (upd H s.heap.objs.size (.tup [.int (i : Nat), x])) h'' s.heap.objs.size (.tup [.int (i : Nat), x]) :=
      ⟨by show 2 ≤ sizeLine; decide, [.int i tk, u], .cons ⟨_, rfl⟩ (.cons ru .nil), ⟨_, hT2, rfl, _, rfl⟩⟩
    have I1 : Inv X pins σ (upd H s.heap.objs.size (.tup [.int (i : Nat), x])) { s with heap := h'', toks := tk + 1 } :=
      I.turnedNew (ch := [e, it]) (fun b ob hb q => (sb.2 b (fun z => hb (by simp [z]))).trans (hk b ob (fun z => hb (by simp [z])) (fun z => hb (by simp [z])) q)) hf (Nat.le_refl _) new
    refine ⟨.ref s.heap.objs.size, _, I1, rfl, ⟨_, x, rfl, I.hok.fresh (Nat.le_refl _), rfl, fun ys hy => by rw [I.tuple_inj hy hq]; exact hx⟩, ⟨⟨u, ?_⟩, hit'.1.at fun o q => (sb.2 it (Ne.symm hne)).trans q, hne⟩, fun b hb => ?_⟩
    · have e1 : ((i + 1 : Nat) : Int) = (i : Int) + 1 := by omega
      rw [e1]; exact he'
    · have hb' : b < s.heap.objs.size := by
        have e' : b = e ∨ b = it := by simpa using hb
        rcases e' with z | z
        · rw [z]; exact hel
        · rw [z]; exact hil
      rw [upd_ne (Nat.ne_of_lt hb')]
      exact (hf b hb).1
  done := by
    intro X hP hw hK hc i pins s σ H E I hf st hg
    subst hP hw hK
    obtain ⟨⟨old, he⟩, hit, hne⟩ := st
    obtain ⟨xs, hq, hx⟩ := hg
    obtain ⟨its, rv, p, hz⟩ := I.tuple hq
    obtain ⟨f0, f1, f2, f3, f4, f5⟩ := hf it (by simp)
    have hl := rv.length
    have hi : its.toArray.size = i := by simp; omega
    subst hi
    exact wpAny_pyNext_enum_endD (Draws.tuple (A := X.A.in1) (I.ok.hd hc) it a hai its.toArray) he ⟨hit, p⟩ fun h' eb => ⟨rfl, I.turned (t' := s.toks) (fun b o hb q => eb b o hb q) f0 f1 f3 f4 f5⟩
  self := fun A i s Q E st h => let ⟨⟨_, he⟩, _⟩ := st; wpAny_pyIter_enum he h
/-- enumerate(xs), xs a list or a tuple -/
def iEnumQ (K : PySem.W.Frag) (ta : TA) : TI := fun σ H R => ta σ H fun vs H1 => ∃ a xs, vs = [.ref a] ∧ ((SqL K H1 a xs ∧ R (Ite K a) H1) ∨ (SqT K H1 a xs ∧ R (Itet K a) H1))
theorem pi_enumQ {X : Cx} {e : Expr} {ta : TA} {p pos tpos : Pos} {elts : List Expr} {kk : Nat} (hg : Gl X "enumerate") (hm : X.mg "enumerate" = none) (ha : PA X [e] ta) (hs : starEach [e] X.env = [(false, eval e X.env)] := by rfl) :
    PI X (.Tuple elts kk tpos) (.Call (.Name "enumerate" p) [e] [] pos) (iEnumQ X.K ta) := by
  refine ⟨fun pins s σ H R I h => ?_⟩
  refine Call_ (ld_blt I hg hm boot_enumerate (PyProof.Rows.callWith_type1 (thn (ha.run pos pins s σ H _ I h) fun us s1 ⟨vs, H1, I1, r1, q1⟩ => ?_) hs rfl))
  obtain ⟨a, xs, ex, hq⟩ := q1
  subst ex
  cases r1 with
  | cons r rr =>
    cases rr
    cases r
    have fresh : ∀ b ∈ [s1.heap.objs.size + 1, s1.heap.objs.size], FpOk X pins H1 b := fun b hb => by
      have e' : b = s1.heap.objs.size + 1 ∨ b = s1.heap.objs.size := by simpa using hb
      have hle : s1.heap.objs.size ≤ b := by
        rcases e' with z | z
        · rw [z]; exact Nat.le_add_right _ _
        · rw [z]; exact Nat.le_refl _
      exact I1.fpOk hle (I1.hok.fresh hle)
    rcases hq with ⟨hq, q⟩ | ⟨hq, q⟩
    · obtain ⟨its, rv, p', hz⟩ := I1.list hq
      refine call_enumerate_list p'.isList fun h' he hit hsz hk => wpAny_pyIter_enum he ?_
      have I2 : Inv X pins σ H1 { s1 with heap := h' } := I1.kept (t' := s1.toks) hk
      exact ⟨s1.heap.objs.size + 1, [s1.heap.objs.size + 1, s1.heap.objs.size], _, _, H1, rfl, I2, turn_enum a (s1.heap.objs.size + 1) s1.heap.objs.size, ⟨⟨.none, he⟩, hit, Nat.succ_ne_self _⟩, fresh, q⟩
    · obtain ⟨its, rv, p', hz⟩ := I1.tuple hq
      have hal : a < s1.heap.objs.size := p'.lt
      refine call_enumerate_tup (show s1.heap.IsTuple a its.toArray from p') fun h' he hit hsz hk => wpAny_pyIter_enum he ?_
      have I2 : Inv X pins σ H1 { s1 with heap := h' } := I1.kept (t' := s1.toks) hk
      exact ⟨s1.heap.objs.size + 1, [s1.heap.objs.size + 1, s1.heap.objs.size], _, _, H1, rfl, I2, turn_enumT a (s1.heap.objs.size + 1) s1.heap.objs.size (Nat.ne_of_lt hal) (Nat.ne_of_gt (Nat.lt_succ_of_lt hal)), ⟨⟨.none, he⟩, hit, Nat.succ_ne_self _⟩, fresh, q⟩
end L2
end

section
set_option Elab.async false
set_option linter.all false
set_option maxRecDepth 100000
set_option maxHeartbeats 1000000
/-! order of nested tuples; == by an own def, with either answer; in, == of tuples of such -/
namespace L2
open PySem PySem.Spec PyProof.Rows PySem.W
section
variable {X : Cx} {α : Type} [DecidableEq α] [DatumOrd α]
def rLtD (α : Type) [DecidableEq α] [DatumOrd α] (K : PySem.W.Frag) : R2 := fun x y H Q => ∃ p q : α, Dp K H x (Datum.toD p) ∧ Dp K H y (Datum.toD q) ∧ Q (.bl (DatumOrd.lt p q)) H
theorem op_ltD (hu : X.A.units + Datum.depth α < cLine) : OpR X (compareOp .Lt) (rLtD α X.K) := by
  intro pins s σ H x y v u Q I rx ry h
  obtain ⟨p, q, hd, he, hq⟩ := h
  obtain ⟨as, r1⟩ := Dp.reads I _ x v hd rx
  obtain ⟨bs, r2⟩ := Dp.reads I _ y u he ry
  exact lt_datum ⟨as, r1⟩ ⟨bs, r2⟩ hu ⟨.bl _, H, I, rfl, hq⟩
def rEqDt (α : Type) [DecidableEq α] [Datum α] (K : PySem.W.Frag) (neg : Bool) : R2 := fun x y H Q => ∃ p q : α, Dp K H x (Datum.toD p) ∧ Dp K H y (Datum.toD q) ∧ Q (.bl (if neg then !decide (p = q) else decide (p = q))) H
theorem op_eqDt {α : Type} [DecidableEq α] [Datum α] (hu : X.A.units + Datum.depth α < cLine) : OpR X (compareOp .Eq) (rEqDt α X.K false) := by
  intro pins s σ H x y v u Q I rx ry h
  obtain ⟨p, q, hd, he, hq⟩ := h
  obtain ⟨as, r1⟩ := Dp.reads I _ x v hd rx
  obtain ⟨bs, r2⟩ := Dp.reads I _ y u he ry
  exact eq_datum ⟨as, r1⟩ ⟨bs, r2⟩ hu ⟨.bl _, H, I, rfl, hq⟩
theorem op_neDt {α : Type} [DecidableEq α] [Datum α] (hu : X.A.units + Datum.depth α < cLine) : OpR X (compareOp .NotEq) (rEqDt α X.K true) := by
  intro pins s σ H x y v u Q I rx ry h
  obtain ⟨p, q, hd, he, hq⟩ := h
  obtain ⟨as, r1⟩ := Dp.reads I _ x v hd rx
  obtain ⟨bs, r2⟩ := Dp.reads I _ y u he ry
  refine ne_datum ⟨as, r1⟩ ⟨bs, r2⟩ hu ⟨.bl (!decide (p = q)), H, I, ?_, hq⟩
  show Value.bool (decide (p ≠ q)) = Value.bool (!decide (p = q))
  rw [decide_not]
end
theorem dp_strs {K : PySem.W.Frag} {H : Hp} : ∀ xs : List Str, DpAll K H (xs.map V.str) (xs.map Datum.toD)
  | [] => .nil
  | x :: xs => .cons (.str x) (dp_strs xs)
theorem dp_tup {K : PySem.W.Frag} {H : Hp} {a : Addr} {xs : List Str} (h : SqT K H a (xs.map V.str)) : Dp K H (.ref a) (Datum.toD (Tup.mk xs)) := .tup h (dp_strs xs)
theorem dp_pair {K : PySem.W.Frag} {H : Hp} {a : Addr} {x y : V} {α β : Type} [DecidableEq α] [Datum α] [DecidableEq β] [Datum β] {p : α} {q : β} (h : SqT K H a [x, y]) (hx : Dp K H x (Datum.toD p)) (hy : Dp K H y (Datum.toD q)) : Dp K H (.ref a) (Datum.toD (p, q)) :=
  .tup h (.cons hx (.cons hy .nil))

/-! ### own == -/
/-- how == of two values goes, by the abstract heap -/
abbrev Eqb := V → V → Bool → Hp → Prop
def EqB (X : Cx) (n : Nat) (D : Eqb) : Prop :=
  ∀ (A : Around) (pins : List (Addr × Obj)) (s : Shared) (σ : St) (H : Hp) (x y : V) (u v : Value) (b : Bool), Sub X n A → Inv X pins σ H s → RelV x u → RelV y v → D x y b H →
    wpAny (model X.prog X.w) A (eqBool u v) (fun r s' => r = b ∧ Inv X pins σ H s') X.xe s
def RcB (X : Cx) (n : Nat) (D : Eqb) : Prop :=
  ∀ (A : Around) (pins : List (Addr × Obj)) (s : Shared) (σ : St) (H : Hp) (x y : V) (u v : Value) (b : Bool), Sub X n A → Inv X pins σ H s → RelV x u → RelV y v → D x y b H →
    wpAny (model X.prog X.w) A (richCompare .Eq u v) (fun r s' => r = .bool b ∧ Inv X pins σ H s') X.xe s
section
variable {X : Cx} {n m : Nat} {D D' : Eqb}
theorem EqB.mono (h : EqB X n D) (hn : n ≤ m) : EqB X m D := fun A pins s σ H x y u v b sb => h A pins s σ H x y u v b (sb.mono hn)
theorem EqB.or (h : EqB X n D) (h' : EqB X n D') : EqB X n (fun x y b H => D x y b H ∨ D' x y b H) := fun A pins s σ H x y u v b sb I rx ry d => by
  rcases d with d | d
  · exact h A pins s σ H x y u v b sb I rx ry d
  · exact h' A pins s σ H x y u v b sb I rx ry d
theorem RcB.or (h : RcB X n D) (h' : RcB X n D') : RcB X n (fun x y b H => D x y b H ∨ D' x y b H) := fun A pins s σ H x y u v b sb I rx ry d => by
  rcases d with d | d
  · exact h A pins s σ H x y u v b sb I rx ry d
  · exact h' A pins s σ H x y u v b sb I rx ry d
theorem EqB.imp (h : EqB X n D) (hd : ∀ x y b H, D' x y b H → D x y b H) : EqB X n D' := fun A pins s σ H x y u v b sb I rx ry d => h A pins s σ H x y u v b sb I rx ry (hd x y b H d)
theorem RcB.imp (h : RcB X n D) (hd : ∀ x y b H, D' x y b H → D x y b H) : RcB X n D' := fun A pins s σ H x y u v b sb I rx ry d => h A pins s σ H x y u v b sb I rx ry (hd x y b H d)
/-- from the rich comparison to == inside a builtin: a thing is equal to itself -/
theorem RcB.eqB (h : RcB X n D) (hf : ∀ x y b H, D x y b H → (∀ i, x ≠ .flt i) ∧ (∀ i j, x = .int i → y ≠ .int j) ∧ (∀ i j, x = .str i → y ≠ .str j)) (hs : ∀ x b H, D x x b H → b = true) : EqB X n D := by
  intro A pins s σ H x y u v b sb I rx ry d
  unfold eqBool
  refine wpAny_holding ?_
  refine wpAny_ite_split (fun hab => ?_) (fun hab => ?_)
  · have e := eq_of_beq hab
    subst e
    have : x = y := rx.inj ry
    subst this
    exact wpAny_bind (wpAny_rule (wpAny_pure ⟨(hs _ _ _ d).symm, I⟩))
  · have hx := (hf _ _ _ _ d).1
    have nf : ∀ i t, u ≠ .float i t := fun i t e => by
      subst e
      cases x with
      | flt i => exact hx i rfl
      | non => cases rx
      | bl _ => cases rx
      | int _ => obtain ⟨_, z⟩ := rx; cases z
      | str _ => obtain ⟨_, z⟩ := rx; cases z
      | byt _ => obtain ⟨_, z⟩ := rx; cases z
      | ref _ => cases rx
      | ty _ => cases rx
    have fin := h A pins s σ H x y u v b sb I rx ry d
    cases u with
    | float i t => exact absurd rfl (nf i t)
    | _ =>
      refine wpAny_bind (wpAny_mono fin (fun r s' hr => ?_) fun _ _ x => x)
      obtain ⟨rfl, I'⟩ := hr
      exact wpAny_truthy_bool ⟨rfl, I'⟩
/-- what a def for == promises: the answer, nothing tracked is touched -/
def spB (R : V → V → Bool → Hp → Prop) : Sp := fun vs H Q _ => ∃ x y b, vs = [x, y] ∧ R x y b H ∧ Q (.bl b) H
theorem sub_env0 {A : Around} {pins : List (Addr × Obj)} {σ : St} {H : Hp} {s : Shared} (sb : Sub X n A) (I : Inv X pins σ H s) : Env0 X.prog X.w X.K X.mg X.base A X.stack s H := by
  have e := I.env0
  exact ⟨by rw [sb.fr]; exact e.frames, e.mod, e.bs, e.bsz, e.funs, e.frf, e.hok, e.bare⟩
/-- the own def runs -/
theorem run_own {CX : CXT} {f : Addr} {fd : FuncData} {ps : List Str} {R : V → V → Bool → Hp → Prop} {E : XK} (F : FnOk X.prog X.w X.K X.mg X.base CX n f fd ps (spB R)) (hb : Binds X.K fd ps []) (hx : Passes CX X E)
    {A : Around} {pins : List (Addr × Obj)} {σ : St} {H : Hp} {s : Shared} {x y : V} {u v : Value} {b : Bool} (sb : Sub X n A) (I : Inv X pins σ H s) (rx : RelV x u) (ry : RelV y v) (r : R x y b H) :
    wpAny (model X.prog X.w) A (call (.ref f) [u, v]) (fun r s' => r = .bool b ∧ Inv X pins σ H s') X.xe s := by
  have hsp : spB R [x, y] H (fun v H' => v = .bl b ∧ H' = H) E := ⟨x, y, b, rfl, r, rfl, rfl⟩
  have hl := F.len _ _ _ _ hsp
  have r2 : Vals [x, y] [u, v] := .cons rx (.cons ry .nil)
  refine wpAny_call (codeAny_mono (F.run A X.stack s H ⟨[u, v], []⟩ [u, v] [x, y] _ E sb.room (sub_env0 sb I) (by
    have := hb s [u, v] I.kIn (by simpa using hl)
    simpa using this) r2 hsp) fun r s' hq => ?_)
  cases r with
  | error e => exact hx pins σ H s e s' I hq
  | ok fl =>
    cases fl with
    | ret w =>
      obtain ⟨z, H', I', rz, ez, eh⟩ := I.after hq
      subst ez eh
      cases rz
      exact ⟨rfl, I'⟩
    | next => exact False.elim hq
    | brk => exact False.elim hq
    | cont => exact False.elim hq
/-- an instance of the class at C on the left; on the right an instance of a class not below it, or None -/
def DOwn (K : PySem.W.Frag) (C : Addr) (R : V → V → Bool → Hp → Prop) : Eqb := fun x y b H => ∃ a dx fs, x = .ref a ∧ H a = some (.ins C dx fs) ∧ R x y b H ∧ ((∃ c C' dy gs, y = .ref c ∧ H c = some (.ins C' dy gs) ∧ notFirst K C (.ref C') = true) ∨ (y = .non ∧ notFirst K C (.type "NoneType") = true))
theorem rcB_own {CX : CXT} {C f : Addr} {fd : FuncData} {ps : List Str} {R : V → V → Bool → Hp → Prop} {E : XK} (F : FnOk X.prog X.w X.K X.mg X.base CX n f fd ps (spB R))
    (hs : PySem.W.findIn X.K (.ref C) "__eq__" = some (some (.ref f))) (hf : PySem.W.isFn X.K (.ref f) = true) (hb : Binds X.K fd ps []) (hx : Passes CX X E) : RcB X n (DOwn X.K C R) := by
  intro A pins s σ H x y u v b sb I rx ry d
  obtain ⟨a, dx, fs, rfl, ha, hr, hy⟩ := d
  have ru := rx
  cases rx
  obtain ⟨mA, J, _⟩ := ins_get I.hok ha
  obtain ⟨od, J, _⟩ := J.look
  obtain ⟨m, hF⟩ := I.fr
  have back : wpAny (model X.prog X.w) A (call (.ref f) [.ref a, v]) (PySem.W.CmpBack (fun r s' => r = .bool b ∧ Inv X pins σ H s')) X.xe s :=
    wpAny_mono (run_own F hb hx sb I ru ry hr) (fun r s' ⟨e, I'⟩ => by subst e; exact ⟨rfl, I'⟩) fun _ _ x => x
  rcases hy with ⟨c, C', dy, gs, rfl, hc, hn⟩ | ⟨rfl, hn⟩
  · cases ry
    obtain ⟨mB, J', _⟩ := ins_get I.hok hc
    obtain ⟨od', J', _⟩ := J'.look
    exact PySem.W.cmp_K (op := .Eq) (tb := .ref C') sb.room.units0 hF I.ok.mod.kin J J'.type hn hs hf back
  · cases ry
    exact PySem.W.cmp_K (op := .Eq) (tb := .type "NoneType") sb.room.units0 hF I.ok.mod.kin J (fun A' Q' E' s' k q => wpAny_pure q) hn hs hf back
/-- None on the left of an instance with its own == -/
def DNone (K : PySem.W.Frag) (C : Addr) (R : V → V → Bool → Hp → Prop) : Eqb := fun x y b H => ∃ a dx fs, x = .non ∧ y = .ref a ∧ H a = some (.ins C dx fs) ∧ R y x b H
theorem rcB_none {CX : CXT} {C f : Addr} {fd : FuncData} {ps : List Str} {R : V → V → Bool → Hp → Prop} {E : XK} (F : FnOk X.prog X.w X.K X.mg X.base CX n f fd ps (spB R))
    (hs : PySem.W.findIn X.K (.ref C) "__eq__" = some (some (.ref f))) (hf : PySem.W.isFn X.K (.ref f) = true) (hb : Binds X.K fd ps []) (hx : Passes CX X E) (hn : PySem.W.subIn X.K (.ref C) (.type "NoneType") = some false) : RcB X n (DNone X.K C R) := by
  intro A pins s σ H x y u v b sb I rx ry d
  obtain ⟨a, dx, fs, rfl, rfl, ha, hr⟩ := d
  have rv := ry
  cases ry
  cases rx
  obtain ⟨mA, J, _⟩ := ins_get I.hok ha
  obtain ⟨od, J, _⟩ := J.look
  have one : wpAny (model X.prog X.w) A (tryCompare (.ref a) "__eq__" .none) (fun r s' => ∃ v, r = some v ∧ v = .bool b ∧ Inv X pins σ H s') X.xe s := by
    unfold tryCompare
    refine wpAny_bind (ifBound_K I.kIn J hs hf (wpAny_mono (run_own F hb hx sb I rv (show RelV .non Value.none from rfl) hr) (fun v s' hv => ?_) fun _ _ e => e))
    obtain ⟨rfl, I'⟩ := hv
    exact wpAny_pure ⟨_, rfl, rfl, I'⟩
  unfold richCompare
  have h0 : oneThing? CmpOp.Eq Value.none (.ref a) = none := rfl
  simp only [h0, cmpInfo]
  refine wpAny_holding (wpAny_bind (wpAny_cRoomFor sb.room.units0 ?_))
  refine wpAny_bind (m := typeOf Value.none) (wpAny_pure (wpAny_bind (J.type.here ?_)))
  rw [if_pos (by rfl)]
  refine wpAny_bind ((looks_subIn I.kIn hn).here ?_)
  simp only [Bool.false_eq_true, if_false, Bool.not_false, if_true]
  refine wpAny_bind (m := tryCompare .none _ (.ref a)) (wpAny_tryCompare_declines (T := "NoneType") rfl PySem.F.slot_NoneType_eq (call_gives PySem.F.slot_NoneType_eq rfl PySem.F.entry_NoneType_eq (PySem.F.args_NoneType_eq_2 _ _) (PySem.SeqAt.NoneType___eq___none_ref_0 a) ⟨rfl, ?_⟩))
  refine wpAny_bind (wpAny_mono one (fun r s' z => ?_) fun _ _ e => e)
  obtain ⟨v, rfl, hq⟩ := z
  exact wpAny_pure hq
end
end L2
end

section
set_option Elab.async false
set_option linter.all false
set_option maxRecDepth 100000
set_option maxHeartbeats 1000000
/-! x in t, t == u of tuples whose items have their own == -/
namespace GQ
open PySem PySem.SeqAt
open AutoSeq1 (wpAny_loadPart')
open MeetsSeq MeetsSeq2 MeetsSeq3 SeqRoads2
section
variable {prog : Program} {w : World} {A : Around} {R : Result → Shared → Prop}
theorem tuple_containsB (l : Addr) (items : Array Value) (n : Nat) (dd : Option Addr) (sl : Array (Option Value)) (x : Value) (e : Value → Bool) (I : Shared → Prop)
    (turn : ∀ y ∈ items, ∀ s, I s → wpAny (model prog w) A.in1 (eqBool y x) (fun r s' => r = e y ∧ I s') (fun e s' => R (.error e) s') s) (fin : ∀ s, I s → R (.ok (.ret (.bool (items.any e)))) s) {s : Shared}
    (hl : s.heap.get? l = some { cls := .type "tuple", dict := dd, data := .seq items n, slots := sl }) (h : I s) :
    wpAny (model prog w) A.in1 (Builtin.«tuple.__contains__» ⟨[.ref l, x], []⟩) (FinOf prog w A R) (fun e s' => R (.error e) s') s := by
  have fin' : ∀ s, I s → R (.ok (.ret (.bool (items.toList.any e)))) s := fun s q => by simpa using fin s q
  have h0 := h
  obtain ⟨hp, g, d, tk, os⟩ := s
  wp_walk using wpAny_loadPart' hl, wpAny_forIn_array _ (fun rest b s' => b.1 = none ∧ (∀ y, y ∈ rest → y ∈ items) ∧ I s' ∧ items.toList.any e = rest.any e) _
  case turn =>
    rintro y rest b s' ⟨hb, hmem, hI, hR⟩
    refine wpAny_bind (wpAny_mono (turn y (hmem y (List.mem_cons_self ..)) s' hI) (fun r s2 q2 => ?_) fun _ _ x => x)
    obtain ⟨hr, q2⟩ := q2
    subst hr
    rw [List.any_cons] at hR
    cases hy : e y with
    | true =>
      rw [hy, Bool.true_or] at hR
      have q := fin' s2 q2
      rw [hR] at q
      wp_walk
      exact q
    | false =>
      rw [hy, Bool.false_or] at hR
      wp_walk
      exact ⟨rfl, fun z hz => hmem z (List.mem_cons_of_mem _ hz), q2, hR⟩
  case fin =>
    rintro ⟨b1, b2⟩ s' ⟨hb, -, hI, hR⟩
    simp only at hb
    subst hb
    have q := fin' s' hI
    rw [hR] at q
    wp_walk
    exact q
  case h =>
    exact ⟨rfl, fun y hy => by simpa using hy, h0, rfl⟩
theorem tuple_eqB (l b : Addr) (items items2 : Array Value) (n n2 : Nat) (dd dd2 : Option Addr) (sl sl2 : Array (Option Value)) (e : Nat → Bool) (I : Shared → Prop)
    (turn : ∀ i (h1 : i < items.size) (h2 : i < items2.size) s, I s → wpAny (model prog w) A.in1 (eqBool items[i] items2[i]) (fun r s' => r = e i ∧ I s') (fun e s' => R (.error e) s') s)
    (fin : ∀ s, I s → R (.ok (.ret (.bool ((List.range (min items.size items2.size)).all e && items.size == items2.size)))) s) {s : Shared}
    (hl1 : s.heap.get? l = some { cls := .type "tuple", dict := dd, data := .seq items n, slots := sl }) (hb1 : s.heap.get? b = some { cls := .type "tuple", dict := dd2, data := .seq items2 n2, slots := sl2 }) (h : I s) :
    wpAny (model prog w) A.in1 (Builtin.«tuple.__eq__» ⟨[.ref l, .ref b], []⟩) (FinOf prog w A R) (fun e s' => R (.error e) s') s := by
  have f2 := AutoSeq1.sub_tuple_tuple
  have hZ : (items.toList.zip items2.toList).length = min items.size items2.size := by simp
  have h0 := h
  obtain ⟨hp, g, d, tk, os⟩ := s
  wp_walk using wpAny_loadPart' hl1, wpAny_loadPart' hb1, wpAny_forIn_list _ (fun rest b s' => b.1 = none ∧ I s' ∧ ∃ i, rest = (items.toList.zip items2.toList).drop i ∧
    ((List.range (min items.size items2.size)).all e && items.size == items2.size) = (((List.range (min items.size items2.size)).drop i).all e && items.size == items2.size)) _
  case turn =>
    rintro ⟨y, x⟩ rest b s' ⟨hb', hI, i, hz, hR⟩
    have hlt : i < (items.toList.zip items2.toList).length := by
      rcases Nat.lt_or_ge i (items.toList.zip items2.toList).length with h' | h'
      · exact h'
      · rw [List.drop_of_length_le h'] at hz; cases hz
    have hm : i < min items.size items2.size := hZ ▸ hlt
    have h1 : i < items.size := Nat.lt_of_lt_of_le hm (Nat.min_le_left _ _)
    have h2 : i < items2.size := Nat.lt_of_lt_of_le hm (Nat.min_le_right _ _)
    rw [List.drop_eq_getElem_cons hlt] at hz
    injection hz with hyx hrest
    have hy : y = items[i] := by have := congrArg Prod.fst hyx; simpa using this
    have hx : x = items2[i] := by have := congrArg Prod.snd hyx; simpa using this
    subst hy hx
    have hd : (List.range (min items.size items2.size)).drop i = i :: (List.range (min items.size items2.size)).drop (i + 1) := by simp [List.drop_eq_getElem_cons, hm]
    rw [hd, List.all_cons] at hR
    refine wpAny_bind (wpAny_mono (turn i h1 h2 s' hI) (fun r s2 q2 => ?_) fun _ _ x => x)
    obtain ⟨hr, q2⟩ := q2
    subst hr
    cases hy : e i with
    | true =>
      rw [hy] at hR
      wp_walk
      exact ⟨rfl, q2, i + 1, hrest, by rw [hR, Bool.true_and]⟩
    | false =>
      rw [hy] at hR
      have q := fin s2 q2
      rw [hR] at q
      wp_walk
      exact by simpa using q
  case fin =>
    rintro ⟨b1, b2⟩ s' ⟨hb', hI, i, hz, hR⟩
    simp only at hb'
    subst hb'
    have hge : min items.size items2.size ≤ i := by
      rcases Nat.lt_or_ge i (items.toList.zip items2.toList).length with h' | h'
      · rw [List.drop_eq_getElem_cons h'] at hz; cases hz
      · exact hZ ▸ h'
    rw [List.drop_of_length_le (by simpa using hge)] at hR
    have q := fin s' hI
    rw [hR] at q
    wp_walk
    exact by simpa [Builtin.Tuple.tupleCompareSizes] using q
  case h =>
    exact ⟨rfl, h0, 0, rfl, by simp⟩
end
section
variable {prog : Program} {w : World} {A : Around} {E : Value → Shared → Prop} {s : Shared}
theorem rc_tupB {l b : Addr} {items items2 : Array Value} {e : Nat → Bool} {Q : Value → Shared → Prop} (hu : A.units < cLine) (I : Shared → Prop) (hl : s.heap.IsTuple l items) (hb : s.heap.IsTuple b items2)
    (turn : ∀ i (h1 : i < items.size) (h2 : i < items2.size) s, I s → wpAny (model prog w) A.in1 (eqBool items[i] items2[i]) (fun r s' => r = e i ∧ I s') E s)
    (fin : ∀ s, I s → Q (.bool ((List.range (min items.size items2.size)).all e && items.size == items2.size)) s) (h : I s) : wpAny (model prog w) A (richCompare .Eq (.ref l) (.ref b)) Q E s := by
  obtain ⟨⟨cls, dd, data, sl⟩, ho, hc, n, hd⟩ := id hl
  obtain ⟨⟨cls2, dd2, data2, sl2⟩, ho2, hc2, n2, hd2⟩ := id hb
  simp only at hc hd hc2 hd2
  subst hc hd hc2 hd2
  refine wpAny_richCompare_same_room (op := .Eq) ⟨_, ho, rfl⟩ ⟨_, ho2, rfl⟩ F.slot_tuple_eq (call_here F.slot_tuple_eq ⟨_, ho, rfl⟩ F.entry_tuple_eq (F.args_tuple_eq_2 _ _) ?_) hu
  exact tuple_eqB (R := wants (fun v s' => v ≠ .notImplemented ∧ Q v s') E) l b items items2 n n2 dd dd2 sl sl2 e I turn (fun s' q => ⟨(fun x => nomatch x), fin s' q⟩) ho ho2 h
theorem contains_tupB {l : Addr} {items : Array Value} {x : Value} {e : Value → Bool} {Q : Bool → Shared → Prop} (I : Shared → Prop) (hl : s.heap.IsTuple l items)
    (turn : ∀ y ∈ items, ∀ s, I s → wpAny (model prog w) A.in1 (eqBool y x) (fun r s' => r = e y ∧ I s') E s) (fin : ∀ s, I s → Q (items.any e) s) (h : I s) : wpAny (model prog w) A (contains (.ref l) x) Q E s := by
  obtain ⟨⟨cls, dd, data, sl⟩, ho, hc, n, hd⟩ := id hl
  simp only at hc hd
  subst hc hd
  refine wpAny_contains_slot ⟨_, ho, rfl⟩ F.slot_tuple_contains (wpAny_mono (Q := fun v s' => ∃ b, v = .bool b ∧ Q b s') (E := E) (call_here F.slot_tuple_contains ⟨_, ho, rfl⟩ F.entry_tuple_contains (F.args_tuple_contains_2 _ _) ?_) (fun v s' hv => ?_) fun _ _ e => e)
  · exact tuple_containsB (R := wants (fun v s' => ∃ b, v = .bool b ∧ Q b s') E) l items n dd sl x e I turn (fun s' q => ⟨_, rfl, fin s' q⟩) ho h
  · obtain ⟨b, rfl, hq⟩ := hv
    exact wpAny_truthy_bool hq
end
end GQ
namespace L2
open PySem PySem.Spec PyProof.Rows PySem.W
section
variable {X : Cx} {n m : Nat} {D D' : Eqb}
/-- pairwise -/
def Prb (D : Eqb) : List V → List V → List Bool → Hp → Prop
  | x :: xs, y :: ys, bs, H => ∃ b r, bs = b :: r ∧ D x y b H ∧ Prb D xs ys r H
  | _, _, bs, _ => bs = []
theorem Prb.at {H : Hp} : ∀ {xs ys : List V} {bs : List Bool}, Prb D xs ys bs H → ∀ (i : Nat) x y, xs[i]? = some x → ys[i]? = some y → D x y (bs.getD i false) H
  | [], _, _, _, i, x, y, h, _ => by simp at h
  | _ :: _, [], _, _, i, x, y, _, h => by simp at h
  | x :: xs, y :: ys, bs, p, i, a, b, h1, h2 => by
    obtain ⟨c, r, e, d, p⟩ := p
    subst e
    cases i with
    | zero => simp at h1 h2; subst h1 h2; simpa using d
    | succ i => simpa using Prb.at p i a b (by simpa using h1) (by simpa using h2)
theorem Prb.len {H : Hp} : ∀ {xs ys : List V} {bs : List Bool}, Prb D xs ys bs H → bs.length = min xs.length ys.length
  | [], _, _, p => by have p : _ = [] := p; rw [p]; simp
  | _ :: _, [], _, p => by have p : _ = [] := p; rw [p]; simp
  | x :: xs, y :: ys, bs, p => by
    obtain ⟨c, r, e, d, p⟩ := p
    subst e
    simp [Prb.len p]
theorem all_getD (bs : List Bool) : (List.range bs.length).all (fun i => bs.getD i false) = bs.all id := by
  induction bs with
  | nil => rfl
  | cons b r ih =>
    rw [List.length_cons, List.range_succ_eq_map, List.all_cons, List.all_map, List.all_cons]
    congr 1
/-- t == u -/
def DTupB (K : PySem.W.Frag) (D : Eqb) : Eqb := fun x y b H => ∃ p q xs ys bs, x = .ref p ∧ y = .ref q ∧ SqT K H p xs ∧ SqT K H q ys ∧ Prb D xs ys bs H ∧ b = (bs.all id && xs.length == ys.length)
theorem rcB_tup (h : EqB X n D) : RcB X (n + 1) (DTupB X.K D) := by
  intro A pins s σ H x y u v b sb I rx ry d
  obtain ⟨p, q, xs, ys, bs, rfl, rfl, hp, hq, pr, rfl⟩ := d
  cases rx
  cases ry
  obtain ⟨its, r, e, z⟩ := I.tuple hp
  obtain ⟨its2, r2, e2, z2⟩ := I.tuple hq
  have l1 := r.length
  have l2 := r2.length
  refine GQ.rc_tupB (e := fun i => bs.getD i false) sb.room.units0 (fun s' => Inv X pins σ H s') (show s.heap.IsTuple p its.toArray from e) (show s.heap.IsTuple q its2.toArray from e2) (fun i h1 h2 s' I' => ?_) (fun s' I' => ⟨?_, I'⟩) I
  · have k1 : i < xs.length := by rw [l1]; simpa using h1
    have k2 : i < ys.length := by rw [l2]; simpa using h2
    obtain ⟨a, ha, ra⟩ := r.get (List.getElem?_eq_getElem k1)
    obtain ⟨c, hc, rc⟩ := r2.get (List.getElem?_eq_getElem k2)
    have ea : its.toArray[i] = a := by
      have : its.toArray[i]? = some a := by simpa using ha
      rw [Array.getElem?_eq_getElem h1] at this
      exact Option.some.inj this
    have ec : its2.toArray[i] = c := by
      have : its2.toArray[i]? = some c := by simpa using hc
      rw [Array.getElem?_eq_getElem h2] at this
      exact Option.some.inj this
    rw [ea, ec]
    exact h A.in1 pins s' σ H _ _ a c _ sb.in1 I' ra rc (pr.at i _ _ (List.getElem?_eq_getElem k1) (List.getElem?_eq_getElem k2))
  · have lb := pr.len
    have e1 : min its.toArray.size its2.toArray.size = bs.length := by rw [lb]; simp [← l1, ← l2]
    rw [e1, all_getD]
    simp [← l1, ← l2]
def rRcB (D : Eqb) : R2 := fun x y H Q => ∃ b, D x y b H ∧ Q (.bl b) H
theorem op_eqB (h : RcB X n D) (hr : Room n X.A) : OpR X (compareOp .Eq) (rRcB D) := by
  intro pins s σ H x y v u Q I rx ry hq
  obtain ⟨b, d, q⟩ := hq
  show wpAny (model X.prog X.w) X.A (richCompare .Eq v u) (EP X pins σ Q) X.xe s
  refine wpAny_mono (h X.A pins s σ H x y v u b ⟨hr, rfl⟩ I rx ry d) (fun r s' z => ?_) fun _ _ x => x
  obtain ⟨rfl, I'⟩ := z
  exact ⟨.bl b, H, I', rfl, q⟩
/-- for each item of a tuple, how == with x goes -/
def Mem (D : Eqb) (x : V) : List V → List Bool → Hp → Prop
  | y :: ys, bs, H => ∃ b r, bs = b :: r ∧ D y x b H ∧ Mem D x ys r H
  | [], bs, _ => bs = []
/-- what each value gives (equal values give equal answers) -/
theorem Mem.fn {x : V} {H : Hp} {u : Value} : ∀ {ys : List V} {bs : List Bool} {us : List Value}, (∀ y b b', D y x b H → D y x b' H → b = b') → Mem D x ys bs H → Vals ys us → ∃ e : Value → Bool, (∀ v ∈ us, ∃ y, RelV y v ∧ D y x (e v) H) ∧ us.any e = bs.any id := by
  intro ys bs us hD p r
  -- by the value's own reading
  have key : ∀ v ∈ us, ∃ y b, RelV y v ∧ D y x b H := by
    clear u
    induction r generalizing bs with
    | nil => intro v hv; simp at hv
    | cons r t ih =>
      obtain ⟨b, rr, _, d, p⟩ := p
      intro v hv
      rcases List.mem_cons.mp hv with e | hv
      · rw [e]; exact ⟨_, b, r, d⟩
      · exact ih p v hv
  classical
  refine ⟨fun v => if h : ∃ y b, RelV y v ∧ D y x b H then h.choose_spec.choose else false, fun v hv => ?_, ?_⟩
  · have h := key v hv
    refine ⟨h.choose, h.choose_spec.choose_spec.1, ?_⟩
    simp only [dif_pos h]
    exact h.choose_spec.choose_spec.2
  · clear key
    induction r generalizing bs with
    | nil =>
      have p : bs = [] := p
      rw [p]; rfl
    | @cons y v ys us r t ih =>
      obtain ⟨b, rr, e, d, p⟩ := p
      subst e
      rw [List.any_cons, List.any_cons, ih p]
      congr 1
      have h : ∃ y b, RelV y v ∧ D y x b H := ⟨_, b, r, d⟩
      simp only [dif_pos h, id]
      have h2 := h.choose_spec.choose_spec
      have e : h.choose = y := h2.1.inj r
      have d2 : D y x h.choose_spec.choose H := e ▸ h2.2
      exact hD _ _ _ d2 d
def rInB (K : PySem.W.Frag) (D : Eqb) (neg : Bool) : R2 := fun x y H Q => ∃ p ys bs, y = .ref p ∧ SqT K H p ys ∧ (∀ z b b', D z x b H → D z x b' H → b = b') ∧ Mem D x ys bs H ∧ Q (.bl (if neg then !bs.any id else bs.any id)) H
theorem contains_B (h : EqB X n D) {A : Around} (sb : Sub X (n + 1) A) {pins : List (Addr × Obj)} {σ : St} {H : Hp} {s : Shared} {x : V} {u : Value} {p : Addr} {ys : List V} {bs : List Bool} {Q : Bool → Shared → Prop} (I : Inv X pins σ H s) (rx : RelV x u) (hp : SqT X.K H p ys)
    (hD : ∀ z b b', D z x b H → D z x b' H → b = b') (hm : Mem D x ys bs H) (q : ∀ s', Inv X pins σ H s' → Q (bs.any id) s') : wpAny (model X.prog X.w) A (contains (.ref p) u) Q X.xe s := by
  obtain ⟨its, r, e, z⟩ := I.tuple hp
  obtain ⟨f, hf, ef⟩ := Mem.fn (u := u) hD hm r
  refine GQ.contains_tupB (e := f) (fun s' => Inv X pins σ H s') (show s.heap.IsTuple p its.toArray from e) (fun y hy s' I' => ?_) (fun s' I' => ?_) I
  · obtain ⟨yv, ry, d⟩ := hf y (by simpa using hy)
    exact h A.in1 pins s' σ H yv x y u _ sb.in1 I' ry rx d
  · have := q s' I'
    rw [← ef] at this
    simpa using this
theorem op_inB (h : EqB X n D) (hr : Room (n + 1) X.A) : OpR X (compareOp .In) (rInB X.K D false) := by
  intro pins s σ H x y v u Q I rx ry hq
  obtain ⟨p, ys, bs, rfl, hp, hD, hm, q⟩ := hq
  cases ry
  show wpAny _ X.A (do return Value.bool (← contains (.ref p) v)) _ _ s
  exact wpAny_bind (contains_B h ⟨hr, rfl⟩ I rx hp hD hm fun s' I' => wpAny_pure ⟨.bl _, H, I', rfl, q⟩)
theorem op_notInB (h : EqB X n D) (hr : Room (n + 1) X.A) : OpR X (compareOp .NotIn) (rInB X.K D true) := by
  intro pins s σ H x y v u Q I rx ry hq
  obtain ⟨p, ys, bs, rfl, hp, hD, hm, q⟩ := hq
  cases ry
  show wpAny _ X.A (do return Value.bool (!(← contains (.ref p) v))) _ _ s
  exact wpAny_bind (contains_B h ⟨hr, rfl⟩ I rx hp hD hm fun s' I' => wpAny_pure ⟨.bl _, H, I', rfl, q⟩)
/-- identity of None -/
def DNN : Eqb := fun x y b _ => x = .non ∧ y = .non ∧ b = true
theorem eqB_nn : EqB X n DNN := by
  intro A pins s σ H x y u v b sb I rx ry d
  obtain ⟨rfl, rfl, rfl⟩ := d
  cases rx
  cases ry
  unfold eqBool
  exact wpAny_holding (wpAny_ite_split (fun _ => wpAny_bind (wpAny_rule (wpAny_pure ⟨rfl, I⟩))) fun h => absurd rfl h)
end
end L2
end

section
set_option Elab.async false
set_option linter.all false
set_option maxRecDepth 100000
set_option maxHeartbeats 1000000
/-! tuple(text) -/
namespace L2
open PySem PySem.Spec PyProof.Rows
def rTupS : List V → Hp → VK → Prop := fun xs H Q => ∃ x, xs = [.str x] ∧ x.cps.size ≤ sizeLine ∧ ∀ p, H p = none → Q (.ref p) (upd H p (.tup (x.cps.toList.map fun c => V.str ⟨#[c]⟩)))
theorem vals_signs {x : Str} : ∀ {l : List Nat} {us : List Value} {k : Nat}, l.length = us.length → (∀ j v, us[j]? = some v → SignAt x (k + j) v) → (∀ j, l[j]? = x.cps[k + j]? ∨ l.length ≤ j) → Vals (l.map fun c => V.str ⟨#[c]⟩) us
  | [], [], _, _, _, _ => .nil
  | c :: l, u :: us, k, hl, h1, h2 => by
    refine .cons ?_ (vals_signs (x := x) (k := k + 1) (by simpa using hl) (fun j v hj => ?_) fun j => ?_)
    · obtain ⟨c', t, hc, rfl⟩ := h1 0 u rfl
      have h0 := (h2 0).resolve_right (by simp)
      rw [hc] at h0
      have h0 : some c = some c' := h0
      injection h0 with h0
      subst h0
      exact ⟨t, rfl⟩
    · have := h1 (j + 1) v (by simpa using hj)
      rwa [show k + 1 + j = k + (j + 1) by omega]
    · rcases h2 (j + 1) with h | h
      · left; rw [show k + 1 + j = k + (j + 1) by omega]; simpa using h
      · right; simpa using h
theorem cr_tupleS {X : Cx} (hc : X.calm = true) : CallR X (.type "tuple") rTupS := by
  intro pins s σ H xs us Q I r h
  obtain ⟨x, rfl, hn, q⟩ := h
  obtain ⟨u, rfl, rx⟩ := vals1 r
  obtain ⟨t, rfl⟩ := (show ∃ t, u = Value.str x t from rx)
  refine call_tuple_str (I.ok.hd hc) x t (fun h' tk acc hk hacc => ?_) hn
  have I1 : Inv X pins σ H { s with heap := h', toks := tk } := I.kept (t' := tk) hk
  have hv : Vals (x.cps.toList.map fun c => V.str ⟨#[c]⟩) acc.toList := by
    refine vals_signs (x := x) (k := 0) (by simpa using hacc.1.symm) (fun j v hj => ?_) fun j => .inl ?_
    · rw [Nat.zero_add]
      exact hacc.2 j v (by simpa using hj)
    · rw [Nat.zero_add]; simp
  have I2 : Inv X pins σ (upd H h'.objs.size (.tup (x.cps.toList.map fun c => V.str ⟨#[c]⟩))) { s with heap := h'.push { cls := .type "tuple", data := .seq acc }, toks := tk } :=
    I1.laid (t' := tk) (fun b o e => Heap.get?_push_of_some _ e) (Nat.le_refl _) (show ObjOk X.prog X.w _ _ _ (.tup _) from ⟨by rw [List.length_map]; simpa using hn, acc.toList, hv, by simpa using IsTup.new h' acc⟩)
  exact ⟨.ref h'.objs.size, _, I2, rfl, q _ (I1.hok.fresh (Nat.le_refl _))⟩
end L2
end

section
set_option linter.all false
/-! the order of texts; ascending lists -/
namespace G
open PySem PySem.Spec PyProof.Rows
def sl (a b : Str) : Prop := a.cps.toList < b.cps.toList
instance (a b : Str) : Decidable (sl a b) := by unfold sl; infer_instance
theorem str_ext {a b : Str} (h : a.cps.toList = b.cps.toList) : a = b := by
  cases a; cases b
  congr 1
  exact Array.toList_inj.mp h
theorem sl_irr (a : Str) : ¬ sl a a := List.lt_irrefl _
theorem sl_trans {a b c : Str} (h : sl a b) (k : sl b c) : sl a c := List.lt_trans h k
theorem sl_asym {a b : Str} (h : sl a b) : ¬ sl b a := fun k => sl_irr _ (sl_trans h k)
theorem sl_tot {a b : Str} (h : a ≠ b) : sl a b ∨ sl b a := by
  by_cases h1 : sl a b
  · exact .inl h1
  · by_cases h2 : sl b a
    · exact .inr h2
    · exact absurd (str_ext (List.le_antisymm (List.not_lt.mp h2) (List.not_lt.mp h1))) h
theorem sl_ne {a b : Str} (h : sl a b) : a ≠ b := fun e => sl_irr a (by rw [e] at h; exact e ▸ h)
def Asc (l : List Str) : Prop := l.Pairwise sl
theorem Asc.nodup {l : List Str} (h : Asc l) : l.Nodup := h.imp fun h => sl_ne h
theorem Asc.filter {l : List Str} (h : Asc l) (p : Str → Bool) : Asc (l.filter p) := List.Pairwise.filter p h
theorem Asc.sub {l l' : List Str} (h : Asc l) (s : l'.Sublist l) : Asc l' := List.Pairwise.sublist s h
theorem rising_pw : ∀ (l : List Str) (p : Str), risingS p l = true → ∀ x ∈ l, ¬ sl x p
  | [], _, _, x, hx => by simp at hx
  | y :: r, p, h, x, hx => by
    rw [risingS, Bool.and_eq_true, Bool.not_eq_true', ltCps_eq] at h
    have h1 : ¬ sl y p := of_decide_eq_false h.1
    rcases List.mem_cons.mp hx with e | hx
    · rw [e]; exact h1
    · intro hp
      refine rising_pw r y h.2 x hx ?_
      by_cases e : y = p
      · rw [e]; exact hp
      · rcases sl_tot e with z | z
        · exact absurd z h1
        · exact sl_trans hp z
theorem rising_tail : ∀ {l : List Str} {p : Str}, risingS p l = true → sortedS l = true
  | [], _, _ => rfl
  | y :: r, p, h => by
    rw [risingS, Bool.and_eq_true] at h
    exact h.2
theorem sorted_le : ∀ {l : List Str}, sortedS l = true → l.Pairwise fun a b => ¬ sl b a
  | [], _ => .nil
  | x :: r, h => .cons (fun y hy => rising_pw r x h y hy) (sorted_le (rising_tail h))
theorem asc_of {l : List Str} (h : sortedS l = true) (hn : l.Nodup) : Asc l := by
  have h := sorted_le h
  unfold Asc
  exact h.imp₂ (fun a b h k => (sl_tot k).resolve_right h) hn
theorem asc_uniq : ∀ {l l' : List Str}, Asc l → Asc l' → (∀ k, k ∈ l ↔ k ∈ l') → l = l'
  | [], [], _, _, _ => rfl
  | [], y :: r, _, _, h => by have := (h y).mpr List.mem_cons_self; simp at this
  | x :: r, [], _, _, h => by have := (h x).mp List.mem_cons_self; simp at this
  | x :: r, y :: t, h, k, e => by
    have hx := List.pairwise_cons.mp h
    have hy := List.pairwise_cons.mp k
    have exy : x = y := by
      rcases List.mem_cons.mp ((e x).mp List.mem_cons_self) with q | q
      · exact q
      · rcases List.mem_cons.mp ((e y).mpr List.mem_cons_self) with z | z
        · exact z.symm
        · exact absurd (sl_trans (hy.1 x q) (hx.1 y z)) (sl_irr _)
    subst exy
    congr 1
    refine asc_uniq hx.2 hy.2 fun z => ⟨fun hz => ?_, fun hz => ?_⟩
    · rcases List.mem_cons.mp ((e z).mp (List.mem_cons_of_mem _ hz)) with q | q
      · exact absurd (q ▸ hx.1 z hz) (sl_irr _)
      · exact q
    · rcases List.mem_cons.mp ((e z).mpr (List.mem_cons_of_mem _ hz)) with q | q
      · exact absurd (q ▸ hy.1 z hz) (sl_irr _)
      · exact q
end G
end

section
set_option linter.all false
/-! cuts of ascending hosts -/
namespace G
open PySem PySem.Spec PyProof.Rows
def GoodName (s : Str) : Prop := 1 ≤ s.length ∧ s.length ≤ 8 ∧ ∀ c ∈ s.cps.toList, c ∈ LET.cps.toList
def nearOf (G F : List Str) : List Str := G.filter fun x => decide (x ∉ F)
structure CutOk (G F : List Str) : Prop where
  aG : Asc G
  aF : Asc F
  sub : ∀ x ∈ F, x ∈ G
  f2 : 2 ≤ F.length
  n2 : 2 ≤ (nearOf G F).length
  l40 : G.length ≤ 40
  g : ∀ x ∈ G, GoodName x
  h : ∀ g0 r, G = g0 :: r → g0 ∉ F
theorem mem_near {G F : List Str} {x : Str} : x ∈ nearOf G F ↔ x ∈ G ∧ x ∉ F := by simp [nearOf]
theorem asc_head {a : Str} {l : List Str} (h : Asc (a :: l)) {x : Str} (hx : x ∈ a :: l) : x = a ∨ sl a x := by
  rcases List.mem_cons.mp hx with e | hx
  · exact .inl e
  · exact .inr ((List.pairwise_cons.mp h).1 x hx)
theorem cut_ok {N F G : List Str} {n0 f0 : Str} {nr fr : List Str} (aN : Asc N) (aF : Asc F) (aG : Asc G) (hd : ∀ x ∈ N, x ∉ F) (p : G.Perm (N ++ F)) (eN : N = n0 :: nr) (eF : F = f0 :: fr) (hl : sl n0 f0) (n2 : 2 ≤ N.length) (f2 : 2 ≤ F.length) (l40 : G.length ≤ 40) (g : ∀ x ∈ N ++ F, GoodName x) :
    CutOk G F ∧ nearOf G F = N := by
  have hN : nearOf G F = N := asc_uniq (aG.filter _) aN fun k => by
    rw [mem_near, p.mem_iff, List.mem_append]
    constructor
    · rintro ⟨h | h, k⟩
      · exact h
      · exact absurd h k
    · exact fun h => ⟨.inl h, hd k h⟩
  refine ⟨⟨aG, aF, fun x hx => p.mem_iff.mpr (List.mem_append_right _ hx), f2, by rw [hN]; exact n2, l40, fun x hx => g x (p.mem_iff.mp hx), fun g0 r e hg => ?_⟩, hN⟩
  have hn0 : n0 ∈ G := p.mem_iff.mpr (List.mem_append_left _ (by rw [eN]; exact List.mem_cons_self))
  have h1 : sl n0 g0 := by
    rcases asc_head (eF ▸ aF) (eF ▸ hg) with z | z
    · rw [z]; exact hl
    · exact sl_trans hl z
  rcases asc_head (e ▸ aG) (e ▸ hn0) with z | z
  · exact sl_irr _ (z ▸ h1)
  · exact sl_asym h1 z
end G
end

section
set_option linter.all false
namespace KM
/-! cuts, fours, partings: plain lists -/
variable {α : Type} [DecidableEq α]

/-- a strict total order -/
structure LO (lt : α → α → Prop) : Prop where
  irr : ∀ a, ¬ lt a a
  trans : ∀ a b c, lt a b → lt b c → lt a c
  tot : ∀ a b, a ≠ b → lt a b ∨ lt b a

/-- on the far side -/
def sd (F : List α) (x : α) : Bool := decide (x ∈ F)

/-- a parting: the pair with the least host, the other one -/
structure Pt (α : Type) where
  p1 : α
  p2 : α
  q1 : α
  q2 : α
  deriving DecidableEq

def Pt.four (p : Pt α) : List α := [p.p1, p.p2, p.q1, p.q2]

def makes (F : List α) (p : Pt α) : Prop := sd F p.p1 = sd F p.p2 ∧ sd F p.q1 = sd F p.q2 ∧ sd F p.p1 ≠ sd F p.q1
instance (F : List α) (p : Pt α) : Decidable (makes F p) := by unfold makes; infer_instance

/-- the parting of an ascending four that a cut makes -/
def code (F : List α) (a b c d : α) : Option (Pt α) :=
  if makes F ⟨a, b, c, d⟩ then some ⟨a, b, c, d⟩
  else if makes F ⟨a, c, b, d⟩ then some ⟨a, c, b, d⟩
  else if makes F ⟨a, d, b, c⟩ then some ⟨a, d, b, c⟩
  else none

def ans (T : List (List α)) (a b c d : α) : Option (Pt α) := T.findSome? fun F => code F a b c d

/-- all ascending choices of so many -/
def chosen : List α → Nat → List (List α)
  | _, 0 => [[]]
  | [], _ + 1 => []
  | x :: r, k + 1 => (chosen r k).map (x :: ·) ++ chosen r (k + 1)

def ans4 (T : List (List α)) : List α → Option (Pt α)
  | [a, b, c, d] => ans T a b c d
  | _ => none

def held (T : List (List α)) (G : List α) : List (Pt α) := (chosen G 4).filterMap (ans4 T)

/-- two cuts do not cross -/
def Cmp (G F1 F2 : List α) : Prop :=
  (∀ x ∈ G, ¬ (x ∈ F1 ∧ x ∈ F2)) ∨ (∀ x ∈ G, ¬ (x ∈ F1 ∧ x ∉ F2)) ∨ (∀ x ∈ G, ¬ (x ∉ F1 ∧ x ∈ F2)) ∨ (∀ x ∈ G, ¬ (x ∉ F1 ∧ x ∉ F2))

theorem Cmp.symm {G F1 F2 : List α} (h : Cmp G F1 F2) : Cmp G F2 F1 := by
  rcases h with h | h | h | h
  · exact .inl fun x hx q => h x hx ⟨q.2, q.1⟩
  · exact .inr (.inr (.inl fun x hx q => h x hx ⟨q.2, q.1⟩))
  · exact .inr (.inl fun x hx q => h x hx ⟨q.2, q.1⟩)
  · exact .inr (.inr (.inr fun x hx q => h x hx ⟨q.2, q.1⟩))

/-! ### a choice is a sublist -/
theorem mem_chosen {G : List α} {k : Nat} {q : List α} : q ∈ chosen G k ↔ q.Sublist G ∧ q.length = k := by
  induction G generalizing k q with
  | nil =>
    cases k with
    | zero => simp [chosen]
    | succ k =>
      simp only [chosen, List.not_mem_nil, List.sublist_nil, false_iff]
      rintro ⟨rfl, h⟩
      simp at h
  | cons x r ih =>
    cases k with
    | zero =>
      simp only [chosen, List.mem_singleton]
      constructor
      · rintro rfl
        simp
      · rintro ⟨_, h⟩
        exact List.eq_nil_of_length_eq_zero h
    | succ k =>
      simp only [chosen, List.mem_append, List.mem_map, ih]
      constructor
      · rintro (⟨p, ⟨h1, h2⟩, rfl⟩ | ⟨h1, h2⟩)
        · exact ⟨h1.cons_cons x, by simp [h2]⟩
        · exact ⟨h1.cons x, h2⟩
      · rintro ⟨h1, h2⟩
        cases h1 with
        | cons _ h => exact .inr ⟨h, h2⟩
        | cons_cons _ h => exact .inl ⟨_, ⟨h, by simpa using h2⟩, rfl⟩

/-! ### Buneman -/
/-- sets that meet are nested; each two things lie in a common one: then one has all -/
theorem cover {β : Type} (S : β → α → Prop) (x1 : α) (hn : ∀ i j, S i x1 → S j x1 → (∀ x, S i x → S j x) ∨ (∀ x, S j x → S i x)) (l : List α) (h0 : ∃ i, S i x1) (hp : ∀ x ∈ l, x ≠ x1 → ∃ i, S i x1 ∧ S i x) :
    ∃ i, S i x1 ∧ ∀ x ∈ l, S i x := by
  induction l with
  | nil =>
    obtain ⟨i, hi⟩ := h0
    exact ⟨i, hi, fun x hx => nomatch hx⟩
  | cons y r ih =>
    obtain ⟨i, hi, hr⟩ := ih fun x hx => hp x (List.mem_cons_of_mem _ hx)
    by_cases hy : y = x1
    · subst hy
      exact ⟨i, hi, fun x hx => (List.mem_cons.mp hx).elim (fun e => e ▸ hi) (hr x)⟩
    · obtain ⟨j, hj, hjy⟩ := hp y List.mem_cons_self hy
      rcases hn i j hi hj with h | h
      · exact ⟨j, hj, fun x hx => (List.mem_cons.mp hx).elim (fun e => e ▸ hjy) fun q => h x (hr x q)⟩
      · exact ⟨i, hi, fun x hx => (List.mem_cons.mp hx).elim (fun e => e ▸ h _ hjy) (hr x)⟩

/-- what a cut parts: x, y on one side, z on the other -/
def Sep (F : List α) (x y z : α) : Prop := (x ∈ F ↔ y ∈ F) ∧ ¬ (x ∈ F ↔ z ∈ F)

theorem nest {G F1 F2 : List α} {a b : α} (c : Cmp G F1 F2) (ha : a ∈ G) (hb : b ∈ G)
    (h1 : ¬ (a ∈ F1 ↔ b ∈ F1)) (h2 : ¬ (a ∈ F2 ↔ b ∈ F2)) : (∀ x ∈ G, ¬ (x ∈ F1 ↔ b ∈ F1) → ¬ (x ∈ F2 ↔ b ∈ F2)) ∨ (∀ x ∈ G, ¬ (x ∈ F2 ↔ b ∈ F2) → ¬ (x ∈ F1 ↔ b ∈ F1)) := by
  unfold Cmp at c
  by_cases x1 : b ∈ F1 <;> by_cases x2 : b ∈ F2 <;> (rcases c with c | c | c | c) <;> grind
theorem nest' {G F1 F2 : List α} {a b : α} (c : Cmp G F1 F2) (ha : a ∈ G) (hb : b ∈ G)
    (h1 : ¬ (a ∈ F1 ↔ b ∈ F1)) (h2 : ¬ (a ∈ F2 ↔ b ∈ F2)) : (∀ x, (x ∈ G ∧ ¬ (x ∈ F1 ↔ b ∈ F1)) → x ∈ G ∧ ¬ (x ∈ F2 ↔ b ∈ F2)) ∨ (∀ x, (x ∈ G ∧ ¬ (x ∈ F2 ↔ b ∈ F2)) → x ∈ G ∧ ¬ (x ∈ F1 ↔ b ∈ F1)) :=
  (nest c ha hb h1 h2).imp (fun h x hx => ⟨hx.1, h x hx.1 hx.2⟩) fun h x hx => ⟨hx.1, h x hx.1 hx.2⟩
theorem iff_of {p q r : Prop} (h1 : ¬ (p ↔ r)) (h2 : ¬ (q ↔ r)) : p ↔ q := by
  by_cases p <;> by_cases q <;> by_cases r <;> simp_all

theorem buneman {G : List α} {T : List (List α)} {F0 : List α} (hT : ∀ F1 ∈ T, ∀ F2 ∈ T, Cmp G F1 F2)
    {a1 a2 b1 b2 : α} (ha1 : a1 ∈ G ∧ a1 ∉ F0) (ha2 : a2 ∈ G ∧ a2 ∉ F0) (hb1 : b1 ∈ G ∧ b1 ∈ F0) (hb2 : b2 ∈ G ∧ b2 ∈ F0) (hab : a1 ≠ a2) (hbb : b1 ≠ b2)
    (hall : ∀ a a' b b', a ∈ G → a ∉ F0 → a' ∈ G → a' ∉ F0 → b ∈ G → b ∈ F0 → b' ∈ G → b' ∈ F0 → a ≠ a' → b ≠ b' →
      ∃ F ∈ T, (a ∈ F ↔ a' ∈ F) ∧ (b ∈ F ↔ b' ∈ F) ∧ ¬ (a ∈ F ↔ b ∈ F)) :
    ∃ F ∈ T, (∀ x ∈ G, x ∈ F ↔ x ∈ F0) ∨ (∀ x ∈ G, x ∈ F ↔ x ∉ F0) := by
  -- all of A lies on one side against each two of B
  have step : ∀ b b', b ∈ G → b ∈ F0 → b' ∈ G → b' ∈ F0 → b ≠ b' → ∃ F ∈ T, (b ∈ F ↔ b' ∈ F) ∧ ∀ a ∈ G, a ∉ F0 → ¬ (a ∈ F ↔ b ∈ F) := by
    intro b b' hb hb0 hb' hb0' hne
    obtain ⟨⟨F, hF, hbb'⟩, h1, h2⟩ := cover (α := α) (β := { F : List α // F ∈ T ∧ (b ∈ F ↔ b' ∈ F) }) (fun i x => x ∈ G ∧ ¬ (x ∈ i.1 ↔ b ∈ i.1)) a1 (fun i j hi hj => nest' (hT i.1 i.2.1 j.1 j.2.1) hi.1 hb hi.2 hj.2)
      (G.filter fun x => decide (x ∉ F0)) (by
        obtain ⟨F, hF, k1, k2, k3⟩ := hall a1 a2 b b' ha1.1 ha1.2 ha2.1 ha2.2 hb hb0 hb' hb0' hab hne
        exact ⟨⟨F, hF, k2⟩, ha1.1, k3⟩) (fun x hx hxne => by
        have hx := List.mem_filter.mp hx
        obtain ⟨F, hF, k1, k2, k3⟩ := hall a1 x b b' ha1.1 ha1.2 hx.1 (of_decide_eq_true hx.2) hb hb0 hb' hb0' (fun e => hxne e.symm) hne
        exact ⟨⟨F, hF, k2⟩, ⟨ha1.1, k3⟩, hx.1, fun q => k3 (k1.trans q)⟩)
    exact ⟨F, hF, hbb', fun a ha ha0 => (h2 a (List.mem_filter.mpr ⟨ha, decide_eq_true ha0⟩)).2⟩
  -- and all of B against all of A
  obtain ⟨⟨F, hF, hA⟩, h1, h2⟩ := cover (α := α) (β := { F : List α // F ∈ T ∧ ∀ a ∈ G, a ∉ F0 → (a ∈ F ↔ a1 ∈ F) }) (fun i x => x ∈ G ∧ ¬ (x ∈ i.1 ↔ a1 ∈ i.1)) b1 (fun i j hi hj => nest' (hT i.1 i.2.1 j.1 j.2.1) hi.1 ha1.1 hi.2 hj.2)
      (G.filter fun x => decide (x ∈ F0)) (by
        obtain ⟨F, hF, k1, k2⟩ := step b1 b2 hb1.1 hb1.2 hb2.1 hb2.2 hbb
        exact ⟨⟨F, hF, fun a ha ha0 => iff_of (k2 a ha ha0) (k2 a1 ha1.1 ha1.2)⟩, hb1.1, fun q => k2 a1 ha1.1 ha1.2 q.symm⟩) (fun x hx hxne => by
        have hx := List.mem_filter.mp hx
        obtain ⟨F, hF, k1, k2⟩ := step b1 x hb1.1 hb1.2 hx.1 (of_decide_eq_true hx.2) (fun e => hxne e.symm)
        exact ⟨⟨F, hF, fun a ha ha0 => iff_of (k2 a ha ha0) (k2 a1 ha1.1 ha1.2)⟩, ⟨hb1.1, fun q => k2 a1 ha1.1 ha1.2 q.symm⟩, hx.1, fun q => k2 a1 ha1.1 ha1.2 (q.symm.trans k1.symm)⟩)
  refine ⟨F, hF, ?_⟩
  have hB : ∀ x ∈ G, x ∈ F0 → ¬ (x ∈ F ↔ a1 ∈ F) := fun x hx hx0 => (h2 x (List.mem_filter.mpr ⟨hx, decide_eq_true hx0⟩)).2
  by_cases z : a1 ∈ F
  · refine .inr fun x hx => ?_
    by_cases hx0 : x ∈ F0
    · have := hB x hx hx0
      simp_all
    · have := hA x hx hx0
      simp_all
  · refine .inl fun x hx => ?_
    by_cases hx0 : x ∈ F0
    · have := hB x hx hx0
      simp_all
    · have := hA x hx hx0
      simp_all

/-! ### fours and their partings -/
theorem code_some {F : List α} {a b c d : α} {p : Pt α} : code F a b c d = some p ↔ (p = ⟨a, b, c, d⟩ ∨ p = ⟨a, c, b, d⟩ ∨ p = ⟨a, d, b, c⟩) ∧ makes F p := by
  unfold code
  by_cases h1 : makes F ⟨a, b, c, d⟩
  · rw [if_pos h1]
    constructor
    · intro e
      injection e with e
      exact ⟨.inl e.symm, e ▸ h1⟩
    · rintro ⟨rfl | rfl | rfl, h⟩
      · rfl
      · exfalso
        unfold makes at h h1
        revert h h1; generalize sd F a = x; generalize sd F b = y; generalize sd F c = z; generalize sd F d = u
        cases x <;> cases y <;> cases z <;> cases u <;> decide
      · exfalso
        unfold makes at h h1
        revert h h1; generalize sd F a = x; generalize sd F b = y; generalize sd F c = z; generalize sd F d = u
        cases x <;> cases y <;> cases z <;> cases u <;> decide
  · rw [if_neg h1]
    by_cases h2 : makes F ⟨a, c, b, d⟩
    · rw [if_pos h2]
      constructor
      · intro e
        injection e with e
        exact ⟨.inr (.inl e.symm), e ▸ h2⟩
      · rintro ⟨rfl | rfl | rfl, h⟩
        · exact absurd h h1
        · rfl
        · exfalso
          unfold makes at h h2
          revert h h2; generalize sd F a = x; generalize sd F b = y; generalize sd F c = z; generalize sd F d = u
          cases x <;> cases y <;> cases z <;> cases u <;> decide
    · rw [if_neg h2]
      by_cases h3 : makes F ⟨a, d, b, c⟩
      · rw [if_pos h3]
        constructor
        · intro e
          injection e with e
          exact ⟨.inr (.inr e.symm), e ▸ h3⟩
        · rintro ⟨rfl | rfl | rfl, h⟩
          · exact absurd h h1
          · exact absurd h h2
          · rfl
      · rw [if_neg h3]
        constructor
        · intro e; cases e
        · rintro ⟨rfl | rfl | rfl, h⟩
          · exact absurd h h1
          · exact absurd h h2
          · exact absurd h h3
theorem makes_iff {F : List α} {p : Pt α} : makes F p ↔ (p.p1 ∈ F ↔ p.p2 ∈ F) ∧ (p.q1 ∈ F ↔ p.q2 ∈ F) ∧ ¬ (p.p1 ∈ F ↔ p.q1 ∈ F) := by
  unfold makes sd
  simp
/-- at most one parting of a four -/
theorem one_way {G F1 F2 : List α} {a b c d : α} {p q : Pt α} (h : Cmp G F1 F2) (ha : a ∈ G) (hb : b ∈ G) (hc : c ∈ G) (hd : d ∈ G) (h1 : code F1 a b c d = some p) (h2 : code F2 a b c d = some q) : p = q := by
  obtain ⟨c1, m1⟩ := code_some.mp h1
  obtain ⟨c2, m2⟩ := code_some.mp h2
  have m1 := makes_iff.mp m1
  have m2 := makes_iff.mp m2
  rcases c1 with rfl | rfl | rfl <;> rcases c2 with rfl | rfl | rfl <;> first | rfl | (exfalso; dsimp only at m1 m2; unfold Cmp at h; rcases h with h | h | h | h <;> grind)
section order
variable {lt : α → α → Prop}
structure Pt.Ord (lt : α → α → Prop) (p : Pt α) : Prop where
  hp : lt p.p1 p.p2
  hq : lt p.q1 p.q2
  h : lt p.p1 p.q1
theorem LO.asym (L : LO lt) {a b : α} (h : lt a b) : ¬ lt b a := fun k => L.irr _ (L.trans _ _ _ h k)
theorem asc_sub (L : LO lt) : ∀ {l G : List α}, l.Pairwise lt → G.Pairwise lt → (∀ x ∈ l, x ∈ G) → l.Sublist G
  | [], G, _, _, _ => List.nil_sublist G
  | x :: r, [], _, _, h => absurd (h x List.mem_cons_self) (by simp)
  | x :: r, g :: t, h1, h2, h => by
    have p1 := List.pairwise_cons.mp h1
    have p2 := List.pairwise_cons.mp h2
    by_cases e : x = g
    · subst e
      refine List.Sublist.cons_cons x (asc_sub L p1.2 p2.2 fun y hy => ?_)
      rcases List.mem_cons.mp (h y (List.mem_cons_of_mem _ hy)) with e | k
      · exact absurd (e ▸ p1.1 y hy) (L.irr _)
      · exact k
    · refine List.Sublist.cons g (asc_sub L h1 p2.2 fun y hy => ?_)
      have hx : x ∈ t := (List.mem_cons.mp (h x List.mem_cons_self)).resolve_left e
      rcases List.mem_cons.mp (h y hy) with k | k
      · subst k
        rcases List.mem_cons.mp hy with q | q
        · exact absurd q.symm e
        · exact absurd (L.trans _ _ _ (p1.1 y q) (p2.1 x hx)) (L.irr _)
      · exact k
theorem asc4 {a b c d : α} (L : LO lt) (h1 : lt a b) (h2 : lt b c) (h3 : lt c d) : [a, b, c, d].Pairwise lt := by
  have := L.trans _ _ _ h1 h2
  have := L.trans _ _ _ h2 h3
  have := L.trans _ _ _ h1 (L.trans _ _ _ h2 h3)
  simp [*]
theorem of_asc4 {a b c d : α} (h : [a, b, c, d].Pairwise lt) : lt a b ∧ lt a c ∧ lt a d ∧ lt b c ∧ lt b d ∧ lt c d := by
  simp at h
  obtain ⟨⟨h1, h2, h3⟩, ⟨h4, h5⟩, h6⟩ := h
  exact ⟨h1, h2, h3, h4, h5, h6⟩
theorem four_of {q : List α} (h : q.length = 4) : ∃ a b c d, q = [a, b, c, d] := by
  match q, h with
  | [a, b, c, d], _ => exact ⟨a, b, c, d, rfl⟩
theorem ans_some {T : List (List α)} {a b c d : α} {p : Pt α} (h : ans T a b c d = some p) : ∃ F ∈ T, code F a b c d = some p := by
  unfold ans at h
  obtain ⟨F, hF, h⟩ := List.exists_of_findSome?_eq_some h
  exact ⟨F, hF, h⟩
def AllCmp (G : List α) (T : List (List α)) : Prop := ∀ F1 ∈ T, ∀ F2 ∈ T, Cmp G F1 F2
theorem ans_of {G : List α} {T : List (List α)} {a b c d : α} {p : Pt α} {F : List α} (hT : AllCmp G T) (ha : a ∈ G) (hb : b ∈ G) (hc : c ∈ G) (hd : d ∈ G) (hF : F ∈ T) (h : code F a b c d = some p) : ans T a b c d = some p := by
  cases e : ans T a b c d with
  | none =>
    unfold ans at e
    rw [List.findSome?_eq_none_iff] at e
    rw [e F hF] at h
    cases h
  | some q =>
    obtain ⟨F', hF', h'⟩ := ans_some e
    rw [one_way (hT _ hF' _ hF) ha hb hc hd h' h]
/-- what holds -/
theorem mem_held (L : LO lt) {G : List α} {T : List (List α)} {p : Pt α} (hG : G.Pairwise lt) (hT : AllCmp G T) : p ∈ held T G ↔ p.Ord lt ∧ (∀ x ∈ p.four, x ∈ G) ∧ ∃ F ∈ T, makes F p := by
  unfold held
  rw [List.mem_filterMap]
  constructor
  · rintro ⟨q, hq, h⟩
    obtain ⟨hs, hl⟩ := mem_chosen.mp hq
    obtain ⟨a, b, c, d, rfl⟩ := four_of hl
    obtain ⟨F, hF, hc⟩ := ans_some (T := T) h
    have ha := List.Pairwise.sublist hs hG
    obtain ⟨ab, ac, ad, bc, bd, cd⟩ := of_asc4 ha
    have hm : ∀ x ∈ [a, b, c, d], x ∈ G := fun x hx => hs.subset hx
    obtain ⟨hp, hk⟩ := code_some.mp hc
    refine ⟨?_, ?_, F, hF, hk⟩
    · rcases hp with rfl | rfl | rfl
      · exact ⟨ab, cd, ac⟩
      · exact ⟨ac, bd, ab⟩
      · exact ⟨ad, bc, ab⟩
    · intro x hx
      refine hm x ?_
      rcases hp with rfl | rfl | rfl <;> simp [Pt.four] at hx ⊢ <;> grind
  · rintro ⟨⟨h1, h2, h3⟩, hm, F, hF, hk⟩
    obtain ⟨p1, p2, q1, q2⟩ := p
    have hk' := makes_iff.mp hk
    dsimp only at h1 h2 h3 hk'
    have n1 : p2 ≠ q1 := fun e => by subst e; grind
    have n2 : p2 ≠ q2 := fun e => by subst e; grind
    have hx : p1 ∈ G ∧ p2 ∈ G ∧ q1 ∈ G ∧ q2 ∈ G := ⟨hm _ (by simp [Pt.four]), hm _ (by simp [Pt.four]), hm _ (by simp [Pt.four]), hm _ (by simp [Pt.four])⟩
    obtain ⟨g1, g2, g3, g4⟩ := hx
    have fin : ∀ a b c d, lt a b → lt b c → lt c d → a ∈ G → b ∈ G → c ∈ G → d ∈ G → code F a b c d = some ⟨p1, p2, q1, q2⟩ → ∃ q, q ∈ chosen G 4 ∧ ans4 T q = some ⟨p1, p2, q1, q2⟩ := by
      intro a b c d ab bc cd ga gb gc gd hcode
      refine ⟨[a, b, c, d], mem_chosen.mpr ⟨asc_sub L (asc4 L ab bc cd) hG ?_, rfl⟩, ans_of hT ga gb gc gd hF hcode⟩
      intro x hx
      simp at hx
      rcases hx with rfl | rfl | rfl | rfl <;> assumption
    rcases L.tot _ _ n1 with k | k
    · exact fin p1 p2 q1 q2 h1 k h2 g1 g2 g3 g4 (code_some.mpr ⟨.inl rfl, hk⟩)
    · rcases L.tot _ _ n2 with k2 | k2
      · exact fin p1 q1 p2 q2 h3 k k2 g1 g3 g2 g4 (code_some.mpr ⟨.inr (.inl rfl), hk⟩)
      · exact fin p1 q1 q2 p2 h3 h2 k2 g1 g3 g4 g2 (code_some.mpr ⟨.inr (.inr rfl), hk⟩)
/-- the parting of two pairs -/
theorem pt_of (L : LO lt) {x x' y y' : α} (h1 : x ≠ x') (h2 : y ≠ y') (h3 : x ≠ y) (h4 : x ≠ y') (h5 : x' ≠ y) (h6 : x' ≠ y') :
    ∃ p : Pt α, p.Ord lt ∧ (∀ z ∈ p.four, z = x ∨ z = x' ∨ z = y ∨ z = y') ∧ ∀ F, makes F p ↔ (x ∈ F ↔ x' ∈ F) ∧ (y ∈ F ↔ y' ∈ F) ∧ ¬ (x ∈ F ↔ y ∈ F) := by
  have base : ∀ a b c d, lt a b → lt c d → a ≠ c → ∃ p : Pt α, p.Ord lt ∧ (∀ z ∈ p.four, z = a ∨ z = b ∨ z = c ∨ z = d) ∧ ∀ F, makes F p ↔ (a ∈ F ↔ b ∈ F) ∧ (c ∈ F ↔ d ∈ F) ∧ ¬ (a ∈ F ↔ c ∈ F) := by
    intro a b c d ab cd ac
    rcases L.tot _ _ ac with k | k
    · exact ⟨⟨a, b, c, d⟩, ⟨ab, cd, k⟩, fun z hz => by simpa [Pt.four] using hz, fun F => makes_iff⟩
    · refine ⟨⟨c, d, a, b⟩, ⟨cd, ab, k⟩, fun z hz => ?_, fun F => makes_iff.trans ?_⟩
      · simp [Pt.four] at hz; grind
      · dsimp only; grind
  rcases L.tot _ _ h1 with k1 | k1 <;> rcases L.tot _ _ h2 with k2 | k2
  · exact base x x' y y' k1 k2 h3
  · obtain ⟨p, o, m, k⟩ := base x x' y' y k1 k2 h4
    exact ⟨p, o, fun z hz => by have := m z hz; grind, fun F => (k F).trans (by grind)⟩
  · obtain ⟨p, o, m, k⟩ := base x' x y y' k1 k2 h5
    exact ⟨p, o, fun z hz => by have := m z hz; grind, fun F => (k F).trans (by grind)⟩
  · obtain ⟨p, o, m, k⟩ := base x' x y' y k1 k2 h6
    exact ⟨p, o, fun z hz => by have := m z hz; grind, fun F => (k F).trans (by grind)⟩
/-- a cut as the program has it -/
structure COk (lt : α → α → Prop) (G F : List α) : Prop where
  aF : F.Pairwise lt
  sub : ∀ x ∈ F, x ∈ G
  f2 : ∃ b1 ∈ F, ∃ b2 ∈ F, b1 ≠ b2
  n2 : ∃ a1 ∈ G, ∃ a2 ∈ G, a1 ∉ F ∧ a2 ∉ F ∧ a1 ≠ a2
  h : ∀ g0 r, G = g0 :: r → g0 ∉ F
theorem asc_uniq' (L : LO lt) {l l' : List α} (h : l.Pairwise lt) (k : l'.Pairwise lt) (e : ∀ x, x ∈ l ↔ x ∈ l') : l = l' :=
  (asc_sub L h k fun x hx => (e x).mp hx).eq_of_length_le (asc_sub L k h fun x hx => (e x).mpr hx).length_le
/-- the cuts are just those all of whose partings hold -/
theorem cut_iff (L : LO lt) {G F0 : List α} {T : List (List α)} (hG : G.Pairwise lt) (hT : AllCmp G T) (hO : ∀ F ∈ T, COk lt G F) (h0 : COk lt G F0) :
    F0 ∈ T ↔ ∀ p : Pt α, p.Ord lt → (∀ x ∈ p.four, x ∈ G) → makes F0 p → p ∈ held T G := by
  constructor
  · exact fun h p o m k => (mem_held L hG hT).mpr ⟨o, m, F0, h, k⟩
  · intro h
    obtain ⟨b1, hb1, b2, hb2, hb⟩ := h0.f2
    obtain ⟨a1, ha1, a2, ha2, na1, na2, hab⟩ := h0.n2
    obtain ⟨F, hF, hc⟩ := buneman hT ⟨ha1, na1⟩ ⟨ha2, na2⟩ ⟨h0.sub _ hb1, hb1⟩ ⟨h0.sub _ hb2, hb2⟩ hab hb fun a a' b b' ga fa ga' fa' gb fb gb' fb' ne ne' => by
      obtain ⟨p, o, m, k⟩ := pt_of L ne ne' (fun e => fa (e ▸ fb)) (fun e => fa (e ▸ fb')) (fun e => fa' (e ▸ fb)) (fun e => fa' (e ▸ fb'))
      have hp := h p o (fun x hx => by rcases m x hx with rfl | rfl | rfl | rfl <;> assumption) ((k F0).mpr (by grind))
      obtain ⟨_, _, F, hF, hm⟩ := (mem_held L hG hT).mp hp
      exact ⟨F, hF, (k F).mp hm⟩
    have oF := hO F hF
    rcases hc with hc | hc
    · rw [asc_uniq' L h0.aF oF.aF fun x => ⟨fun hx => (hc x (h0.sub x hx)).mpr hx, fun hx => (hc x (oF.sub x hx)).mp hx⟩]
      exact hF
    · exfalso
      match G, h0, oF, hc with
      | [], h0, _, _ => simp at ha1
      | g :: r, h0, oF, hc =>
        have k := hc g List.mem_cons_self
        exact oF.h g r rfl (k.mpr (h0.h g r rfl))
/-- below: just if the partings are held -/
theorem le_iff (L : LO lt) {G : List α} {T1 T2 : List (List α)} (hG : G.Pairwise lt) (h1 : AllCmp G T1) (h2 : AllCmp G T2) (o1 : ∀ F ∈ T1, COk lt G F) (o2 : ∀ F ∈ T2, COk lt G F) :
    (∀ F ∈ T1, F ∈ T2) ↔ ∀ p ∈ held T1 G, p ∈ held T2 G := by
  constructor
  · intro h p hp
    obtain ⟨o, m, F, hF, k⟩ := (mem_held L hG h1).mp hp
    exact (mem_held L hG h2).mpr ⟨o, m, F, h F hF, k⟩
  · intro h F hF
    exact (cut_iff L hG h2 o2 (o1 F hF)).mpr fun p o m k => h p ((mem_held L hG h1).mpr ⟨o, m, F, hF, k⟩)
/-! ### fewer hosts -/
theorem chosen_filter (s : α → Bool) : ∀ (G : List α) (k : Nat), chosen (G.filter s) k = (chosen G k).filter fun q => q.all s
  | G, 0 => by
    have e : ∀ l : List α, chosen l 0 = [[]] := fun l => by cases l <;> rfl
    rw [e, e]; rfl
  | [], k + 1 => by simp [chosen]
  | x :: r, k + 1 => by
    have ih1 := chosen_filter s r k
    have ih2 := chosen_filter s r (k + 1)
    cases hx : s x with
    | true =>
      rw [List.filter_cons_of_pos hx, chosen, chosen, List.filter_append, ih1, ih2, List.filter_map]
      congr 2
      apply List.filter_congr
      intro q _
      simp [hx]
    | false =>
      rw [List.filter_cons_of_neg (by simp [hx]), chosen, List.filter_append, ih2, List.filter_map]
      have e0 : (chosen r k).filter ((fun q => q.all s) ∘ fun x_1 => x :: x_1) = [] := List.filter_eq_nil_iff.mpr fun q _ => by simp [hx]
      rw [e0]
      rfl
theorem ans4_four {G : List α} {T : List (List α)} {q : List α} {p : Pt α} (h : ans4 T q = some p) : q.Perm p.four := by
  match q, h with
  | [a, b, c, d], h =>
    obtain ⟨F, hF, h⟩ := ans_some (T := T) h
    rcases (code_some.mp h).1 with rfl | rfl | rfl
    · exact .refl _
    · exact .cons _ (.swap _ _ _)
    · show [a, b, c, d].Perm [a, d, b, c]
      exact .cons _ ((List.Perm.cons _ (.swap _ _ _)).trans (.swap _ _ _))
/-- the cuts as they part fewer hosts -/
structure Rest (G : List α) (T T' : List (List α)) : Prop where
  dn : ∀ F' ∈ T', ∃ F ∈ T, (∀ x ∈ G, x ∈ F' ↔ x ∈ F) ∨ (∀ x ∈ G, x ∈ F' ↔ x ∉ F)
  up : ∀ F ∈ T, (∃ b1 ∈ G, ∃ b2 ∈ G, b1 ∈ F ∧ b2 ∈ F ∧ b1 ≠ b2) → (∃ a1 ∈ G, ∃ a2 ∈ G, a1 ∉ F ∧ a2 ∉ F ∧ a1 ≠ a2) → ∃ F' ∈ T', (∀ x ∈ G, x ∈ F' ↔ x ∈ F) ∨ (∀ x ∈ G, x ∈ F' ↔ x ∉ F)
theorem makes_agree {F F' : List α} {p : Pt α} {G : List α} (hm : ∀ x ∈ p.four, x ∈ G) (h : (∀ x ∈ G, x ∈ F' ↔ x ∈ F) ∨ (∀ x ∈ G, x ∈ F' ↔ x ∉ F)) : makes F' p ↔ makes F p := by
  have g1 := hm p.p1 (by simp [Pt.four])
  have g2 := hm p.p2 (by simp [Pt.four])
  have g3 := hm p.q1 (by simp [Pt.four])
  have g4 := hm p.q2 (by simp [Pt.four])
  rw [makes_iff, makes_iff]
  rcases h with h | h
  · rw [h _ g1, h _ g2, h _ g3, h _ g4]
  · rw [h _ g1, h _ g2, h _ g3, h _ g4]; grind
theorem rest_cmp {G G' : List α} {T T' : List (List α)} (hs : ∀ x ∈ G', x ∈ G) (hT : AllCmp G T) (hr : ∀ F' ∈ T', ∃ F ∈ T, (∀ x ∈ G', x ∈ F' ↔ x ∈ F) ∨ (∀ x ∈ G', x ∈ F' ↔ x ∉ F)) : AllCmp G' T' := by
  intro F1 h1 F2 h2
  obtain ⟨E1, e1, k1⟩ := hr F1 h1
  obtain ⟨E2, e2, k2⟩ := hr F2 h2
  have c := hT E1 e1 E2 e2
  unfold Cmp at c ⊢
  have cg : (∀ x ∈ G', ¬ (x ∈ E1 ∧ x ∈ E2)) ∨ (∀ x ∈ G', ¬ (x ∈ E1 ∧ x ∉ E2)) ∨ (∀ x ∈ G', ¬ (x ∉ E1 ∧ x ∈ E2)) ∨ (∀ x ∈ G', ¬ (x ∉ E1 ∧ x ∉ E2)) :=
    c.imp (fun h x hx => h x (hs x hx)) (.imp (fun h x hx => h x (hs x hx)) (.imp (fun h x hx => h x (hs x hx)) fun h x hx => h x (hs x hx)))
  clear c
  rcases k1 with k1 | k1 <;> rcases k2 with k2 | k2 <;> rcases cg with c | c | c | c <;> grind
theorem held_rest (L : LO lt) {G : List α} {T T' : List (List α)} (s : α → Bool) (hG : G.Pairwise lt) (hT : AllCmp G T) (r : Rest (G.filter s) T T') : held T' (G.filter s) = (held T G).filter fun p => p.four.all s := by
  have hT' : AllCmp (G.filter s) T' := rest_cmp (fun x hx => (List.mem_filter.mp hx).1) hT r.dn
  unfold held
  rw [chosen_filter]
  have key : ∀ q ∈ chosen G 4, q.all s = true → ans4 T' q = ans4 T q := by
    intro q hq hs
    obtain ⟨hs1, hl⟩ := mem_chosen.mp hq
    obtain ⟨a, b, c, d, rfl⟩ := four_of hl
    have hm : ∀ x ∈ [a, b, c, d], x ∈ G.filter s := fun x hx => List.mem_filter.mpr ⟨hs1.subset hx, List.all_eq_true.mp hs x hx⟩
    have ma := hm a (by simp)
    have mb := hm b (by simp)
    have mc := hm c (by simp)
    have md := hm d (by simp)
    have sub : ∀ {x}, x ∈ G.filter s → x ∈ G := fun h => (List.mem_filter.mp h).1
    obtain ⟨ab, ac, ad, bc, bd, cd⟩ := of_asc4 (List.Pairwise.sublist hs1 hG)
    have ne : ∀ {x y : α}, lt x y → x ≠ y := fun h e => L.irr _ (e ▸ h)
    have pf : ∀ {p : Pt α}, (p = ⟨a, b, c, d⟩ ∨ p = ⟨a, c, b, d⟩ ∨ p = ⟨a, d, b, c⟩) → ∀ x ∈ p.four, x ∈ G.filter s := by
      intro p hp x hx
      rcases hp with rfl | rfl | rfl <;> simp only [Pt.four, List.mem_cons, List.not_mem_nil, or_false] at hx <;> (rcases hx with rfl | rfl | rfl | rfl <;> assumption)
    show ans T' a b c d = ans T a b c d
    cases e : ans T a b c d with
    | some p =>
      obtain ⟨F, hF, hc⟩ := ans_some e
      obtain ⟨hp, hk⟩ := code_some.mp hc
      have hk' := makes_iff.mp hk
      have : ∃ F' ∈ T', (∀ x ∈ G.filter s, x ∈ F' ↔ x ∈ F) ∨ (∀ x ∈ G.filter s, x ∈ F' ↔ x ∉ F) := by
        have hpf := pf hp
        have f1 := hpf p.p1 (by simp [Pt.four])
        have f2 := hpf p.p2 (by simp [Pt.four])
        have f3 := hpf p.q1 (by simp [Pt.four])
        have f4 := hpf p.q2 (by simp [Pt.four])
        have n1 : p.p1 ≠ p.p2 ∧ p.q1 ≠ p.q2 := by
          rcases hp with rfl | rfl | rfl
          · exact ⟨ne ab, ne cd⟩
          · exact ⟨ne ac, ne bd⟩
          · exact ⟨ne ad, ne bc⟩
        by_cases z : p.p1 ∈ F
        · exact r.up F hF ⟨_, f1, _, f2, z, hk'.1.mp z, n1.1⟩ ⟨_, f3, _, f4, by grind, by grind, n1.2⟩
        · exact r.up F hF ⟨_, f3, _, f4, by grind, by grind, n1.2⟩ ⟨_, f1, _, f2, z, by grind, n1.1⟩
      obtain ⟨F', hF', hag⟩ := this
      exact ans_of hT' ma mb mc md hF' (code_some.mpr ⟨hp, (makes_agree (pf hp) hag).mpr hk⟩)
    | none =>
      cases e' : ans T' a b c d with
      | none => rfl
      | some p =>
        obtain ⟨F', hF', hc⟩ := ans_some e'
        obtain ⟨hp, hk⟩ := code_some.mp hc
        obtain ⟨F, hF, hag⟩ := r.dn F' hF'
        rw [ans_of hT (sub ma) (sub mb) (sub mc) (sub md) hF (code_some.mpr ⟨hp, (makes_agree (pf hp) hag).mp hk⟩)] at e
        cases e
  clear hT hT'
  revert key
  generalize chosen G 4 = l
  intro key
  induction l with
  | nil => rfl
  | cons q l ih =>
    have ih := ih fun x hx => key x (List.mem_cons_of_mem _ hx)
    cases hq : q.all s with
    | true =>
      rw [List.filter_cons_of_pos (p := fun q : List α => q.all s) hq]
      simp only [List.filterMap_cons]
      rw [key q List.mem_cons_self hq]
      cases e : ans4 T q with
      | none => exact ih
      | some p =>
        dsimp only
        rw [List.filter_cons_of_pos (by rw [← (ans4_four (G := G) e).all_eq]; exact hq), ih]
    | false =>
      rw [List.filter_cons_of_neg (p := fun q : List α => q.all s) (by simp [hq])]
      simp only [List.filterMap_cons]
      cases e : ans4 T q with
      | none => exact ih
      | some p =>
        dsimp only
        rw [List.filter_cons_of_neg (by rw [← (ans4_four (G := G) e).all_eq]; simp [hq]), ih]
end order
end KM
end

section
set_option Elab.async false
set_option linter.all false
set_option maxRecDepth 100000
set_option maxHeartbeats 1000000
/-! the program's defs: words -/
namespace G
open PySem PySem.Spec PyProof.Rows L2

/-! ### a sequence: a list or a tuple -/
def Sq (K : PySem.W.Frag) (H : Hp) (a : Addr) (xs : List V) : Prop := SqL K H a xs ∨ SqT K H a xs
theorem Sq.ext {K : PySem.W.Frag} {H H' : Hp} {a : Addr} {xs : List V} (h : Sq K H a xs) (e : Ext H H') : Sq K H' a xs := h.imp (·.ext e) (·.ext e)
theorem Sq.lst {K : PySem.W.Frag} {H : Hp} {a : Addr} {xs : List V} (h : H a = some (.lst xs)) : Sq K H a xs := .inl (SqL.of h)
theorem Sq.tup {K : PySem.W.Frag} {H : Hp} {a : Addr} {xs : List V} (h : H a = some (.tup xs)) : Sq K H a xs := .inr (SqT.of h)
/-- what walks over given things, the heap as it stands -/
structure Over (J : It) (xs : List V) (st : Hp → Prop) : Prop where
  go : ∀ i H, i < xs.length → st H → J.go i H
  stop : ∀ i H, xs.length ≤ i → st H → J.stop i H
  yld : ∀ i H x H', i < xs.length → st H → J.yld i H x H' → H' = H ∧ xs[i]? = some x
theorem over_list {K : PySem.W.Frag} {a : Addr} {xs : List V} : Over (Itl K a) xs (fun H => SqL K H a xs) :=
  ⟨fun i H hi h => ⟨xs, xs[i], h, by simp [hi]⟩, fun i H hi h => ⟨xs, h, hi⟩, fun i H x H' hi h y => ⟨y.1, y.2 xs h⟩⟩
theorem over_tup {K : PySem.W.Frag} {a : Addr} {xs : List V} : Over (Itt K a) xs (fun H => SqT K H a xs) :=
  ⟨fun i H hi h => ⟨xs, xs[i], h, by simp [hi]⟩, fun i H hi h => ⟨xs, h, hi⟩, fun i H x H' hi h y => ⟨y.1, y.2 xs h⟩⟩
def signs (x : Str) : List V := x.cps.toList.map fun c => .str ⟨#[c]⟩
theorem over_str {x : Str} : Over (Its x) (signs x) (fun _ => True) :=
  ⟨fun i H hi _ => show i < x.cps.size by simpa [signs] using hi, fun i H hi _ => show x.cps.size ≤ i by simpa [signs] using hi, fun i H y H' hi _ h => by
    obtain ⟨e, c, hc, rfl⟩ := h
    refine ⟨e, ?_⟩
    simp [signs, hc]⟩
theorem over_range {lo : Int} {n : Nat} : Over (Itr lo n) ((List.range n).map fun (i : Nat) => .int (lo + (i : Int))) (fun _ => True) :=
  ⟨fun i H hi _ => show i < n by simpa using hi, fun i H hi _ => show n ≤ i by simpa using hi, fun i H y H' hi _ h => by
    obtain ⟨e, rfl⟩ := h
    refine ⟨e, ?_⟩
    simp at hi
    simp [hi]⟩
/-- a list or a tuple, walked -/
def iSeq (K : PySem.W.Frag) (te : TE) : TI := fun σ H R => te σ H fun v H1 => ∃ a xs, v = .ref a ∧ ((SqL K H1 a xs ∧ R (Itl K a) H1) ∨ (SqT K H1 a xs ∧ R (Itt K a) H1))
theorem pi_seq {X : Cx} {tg e : Expr} {te : TE} (he : PE X e te) : PI X tg e (iSeq X.K te) := by
  refine ⟨fun pins s σ H R I h => ?_⟩
  refine thn (he.run pins s σ H _ I h) fun v s1 ⟨x, H1, I1, r1, q1⟩ => ?_
  obtain ⟨a, xs, e, q⟩ := q1
  subst e
  cases r1
  rcases q with ⟨hq, q⟩ | ⟨hq, q⟩
  · obtain ⟨its, rv, p, hz⟩ := I1.list hq
    refine wpAny_pyIter_list p.isList ?_
    refine ⟨s1.heap.objs.size, [s1.heap.objs.size], _, _, H1, rfl, I1.kept (t' := s1.toks) fun b o e => Heap.get?_push_of_some _ e, turn_list a _, ⟨_, Heap.get?_push_size _ rfl, rfl, rfl⟩, fun b hb => ?_, q⟩
    have e : b = s1.heap.objs.size := by simpa using hb
    subst e
    exact I1.fpOk (Nat.le_refl _) (I1.hok.fresh (Nat.le_refl _))
  · obtain ⟨its, rv, p, hz⟩ := I1.tuple hq
    refine wpAny_pyIter_tuple (show s1.heap.IsTuple a its.toArray from p) ?_
    refine ⟨s1.heap.objs.size, [s1.heap.objs.size], _, _, H1, rfl, I1.kept (t' := s1.toks) fun b o e => Heap.get?_push_of_some _ e, turn_tuple a _, ⟨_, Heap.get?_push_size _ rfl, rfl, rfl⟩, fun b hb => ?_, q⟩
    have e : b = s1.heap.objs.size := by simpa using hb
    subst e
    exact I1.fpOk (Nat.le_refl _) (I1.hok.fresh (Nat.le_refl _))
theorem iseq_of {K : PySem.W.Frag} {H : Hp} {a : Addr} {xs : List V} {R : It → Hp → Prop} (h : Sq K H a xs) (q : ∀ J st, Over J xs st → (∀ H', Ext H H' → st H') → R J H) :
    ∃ a' xs', V.ref a = .ref a' ∧ ((SqL K H a' xs' ∧ R (Itl K a') H) ∨ (SqT K H a' xs' ∧ R (Itt K a') H)) := by
  refine ⟨a, xs, rfl, ?_⟩
  rcases h with h | h
  · exact .inl ⟨h, q _ _ over_list fun H' e => h.ext e⟩
  · exact .inr ⟨h, q _ _ over_tup fun H' e => h.ext e⟩
/-! ### pairwise over lists -/
inductive All2 {α β : Type} (R : α → β → Prop) : List α → List β → Prop
  | nil : All2 R [] []
  | cons {x y xs ys} : R x y → All2 R xs ys → All2 R (x :: xs) (y :: ys)
theorem All2.snoc {α β : Type} {R : α → β → Prop} {xs : List α} {ys : List β} {x : α} {y : β} (h : All2 R xs ys) (r : R x y) : All2 R (xs ++ [x]) (ys ++ [y]) := by
  induction h with
  | nil => exact .cons r .nil
  | cons r' _ ih => exact .cons r' ih
theorem All2.imp {α β : Type} {R R' : α → β → Prop} {xs : List α} {ys : List β} (h : All2 R xs ys) (k : ∀ x y, R x y → R' x y) : All2 R' xs ys := by
  induction h with
  | nil => exact .nil
  | cons r _ ih => exact .cons (k _ _ r) ih
theorem All2.map {α β : Type} {f : α → β} {xs : List α} {ys : List β} (h : All2 (fun x y => y = f x) xs ys) : ys = xs.map f := by
  induction h with
  | nil => rfl
  | cons r _ ih => rw [r, ih]; rfl
theorem All2.length {α β : Type} {R : α → β → Prop} {xs : List α} {ys : List β} (h : All2 R xs ys) : ys.length = xs.length := by
  induction h with
  | nil => rfl
  | cons _ _ ih => simp [ih]
/-- all but one thing stand -/
def ExtB (D : Addr) (H H' : Hp) : Prop := ∀ a o, a ≠ D → H a = some o → H' a = some o
theorem Ext.upd_back {H H1 H2 : Hp} {D : Addr} {o : HO} (h : H D = none) (e : Ext H H1) (e2 : ExtB D H1 H2) : Ext H H2 := fun a u q => e2 a u (ne_of_none q h) (e a u q)
theorem extB_upd {H : Hp} {D : Addr} {o : HO} : ExtB D H (upd H D o) := fun a u n q => by rw [upd_ne n]; exact q
/-- what a comprehension asks of what it walks -/
def LcR (g : TG) (tt : TT) (te : TE) (vs : List Nat) (σ : L2.St) (Q : VK) : It → Hp → Prop := fun J H1 => ∀ D, H1 D = none → ∃ W : Nat → Nat → Hp → Prop, (∃ m, W 0 m (upd H1 D (.lst []))) ∧ ∀ i m H, W i m H →
  (J.stop i H ∧ Q (.ref D) H) ∨ (J.go i H ∧ ∃ Nx : Hp → Prop, (∀ H', Nx H' → ∃ m', m' < m ∧ W (i + 1) m' H') ∧ ∀ x H', J.yld i H x H' → g x (wipe σ vs) H' fun σ2 H2 => wipe σ2 vs = wipe σ vs ∧ tt σ2 H2 fun b H3 =>
    if b = true then te σ2 H3 fun y H4 => ∃ acc, H4 D = some (.lst acc) ∧ acc.length < sizeLine ∧ Nx (upd H4 D (.lst (acc ++ [y]))) else Nx H3)
theorem tlc_of {wi : TI} {g : TG} {tt : TT} {te : TE} {vs : List Nat} {σ : L2.St} {H : Hp} {Q : VK} (h : wi σ H (LcR g tt te vs σ Q)) : tLc wi g tt te vs σ H Q := h
/-- THE COMPREHENSION over a sequence: what is kept, and how the items become the new list's -/
theorem lc_over {J : It} {xs : List V} {st : Hp → Prop} {i : Nat} {σ : L2.St} {H : Hp} {tt : TT} {te : TE} {Q : VK} (ov : Over J xs st) (keep : V → Bool) (Rr : Addr → V → V → Hp → Prop)
    (hst : ∀ H', Ext H H' → st H') (hz : xs.length ≤ sizeLine)
    (stab : ∀ D x y H1 H2 l, H1 D = some (.lst l) → ExtB D H1 H2 → Rr D x y H1 → Rr D x y H2)
    (turn : ∀ D l x H1 (M : V → Hp → Prop) (N : Hp → Prop), x ∈ xs → H D = none → H1 D = some (.lst l) → Ext H H1 → (keep x = true → ∀ y H3, Ext H1 H3 → Rr D x y H3 → M y H3) → (keep x = false → ∀ H3, Ext H1 H3 → N H3) →
      tt (σ.set i (some x)) H1 fun b H2 => if b = true then te (σ.set i (some x)) H2 M else N H2)
    (fin : ∀ D H' acc, H D = none → Ext H H' → H' D = some (.lst acc) → All2 (fun x y => Rr D x y H') (xs.filter keep) acc → Q (.ref D) H') :
    LcR (gName i) tt te [i] σ Q J H := by
  intro D hD
  let Pv : Nat → Hp → Prop := fun j H' => Ext H H' ∧ ∃ acc, H' D = some (.lst acc) ∧ All2 (fun x y => Rr D x y H') ((xs.take j).filter keep) acc
  have extD : ∀ {H1 H2 : Hp} {l : List V}, H1 D = some (.lst l) → Ext H1 H2 → ExtB D H1 H2 := fun _ e a u _ q => e a u q
  refine ⟨fun j m H' => m = xs.length - j ∧ j ≤ xs.length ∧ Pv j H', ⟨xs.length, by simp, Nat.zero_le _, Ext.upd hD, [], upd_same, by simpa using All2.nil⟩, ?_⟩
  rintro j m H1 ⟨rfl, hj, e1, acc, ha, hR⟩
  by_cases hlt : j < xs.length
  · refine .inr ⟨ov.go _ _ hlt (hst _ e1), Pv (j + 1), fun H' p' => ⟨xs.length - (j + 1), by omega, rfl, hlt, p'⟩, fun x H' y => ?_⟩
    obtain ⟨rfl, hx⟩ := ov.yld _ _ _ _ hlt (hst _ e1) y
    have hw : (wipe σ [i]).set i (some x) = σ.set i (some x) := by simp [wipe]
    have htk : xs.take (j + 1) = xs.take j ++ [x] := by rw [List.take_add_one, hx]; rfl
    show wipe ((wipe σ [i]).set i (some x)) [i] = wipe σ [i] ∧ _
    rw [hw]
    refine ⟨by simp [wipe], turn D acc x H' _ _ (List.mem_of_getElem? hx) hD ha e1 ?_ ?_⟩
    · intro hk y H3 e3 r
      have ha3 := e3 _ _ ha
      have hl : acc.length ≤ j := by
        rw [hR.length]
        exact Nat.le_trans (List.length_filter_le _ _) (List.length_take_le _ _)
      refine ⟨acc, ha3, by omega, Ext.upd_back (o := .lst acc) hD (e1.trans e3) extB_upd, _, upd_same, ?_⟩
      rw [htk, List.filter_append]
      have : [x].filter keep = [x] := by simp [hk]
      rw [this]
      exact (hR.imp fun x y r => stab D x y _ _ _ ha3 extB_upd (stab D x y _ _ _ ha (extD ha e3) r)).snoc (stab D x y _ _ _ ha3 extB_upd r)
    · intro hk H2 e2
      exact ⟨e1.trans e2, acc, e2 _ _ ha, by rw [htk, List.filter_append]; simpa [hk] using hR.imp fun x y r => stab D x y _ _ _ ha (extD ha e2) r⟩
  · have e : j = xs.length := by omega
    subst e
    exact .inl ⟨ov.stop _ _ (Nat.le_refl _) (hst _ e1), fin D _ acc hD e1 ha (by simpa using hR)⟩
theorem filter_all {α : Type} (xs : List α) : xs.filter (fun _ => true) = xs := List.filter_eq_self.mpr fun _ _ => rfl
/-- .. without an if, each item by a function -/
theorem lc_map {J : It} {xs : List V} {st : Hp → Prop} {i : Nat} {σ : L2.St} {H : Hp} {te : TE} {Q : VK} (ov : Over J xs st) (f : V → V) (hst : ∀ H', Ext H H' → st H') (hz : xs.length ≤ sizeLine)
    (turn : ∀ x H1 (M : V → Hp → Prop), x ∈ xs → Ext H H1 → (∀ H3, Ext H1 H3 → M (f x) H3) → te (σ.set i (some x)) H1 M)
    (fin : ∀ D H', H D = none → Ext H H' → H' D = some (.lst (xs.map f)) → Q (.ref D) H') : LcR (gName i) tYes te [i] σ Q J H := by
  refine lc_over ov (fun _ => true) (fun _ x y _ => y = f x) hst hz (fun _ _ _ _ _ _ _ _ h => h) (fun D l x H1 M N hx hD hl e hM _ => ?_) fun D H' acc hD e hl hR => ?_
  · dsimp only [tYes]
    rw [if_pos rfl]
    exact turn x H1 M hx e fun H3 e3 => hM rfl _ H3 e3 rfl
  · refine fin D H' hD e ?_
    rw [hl, hR.map, filter_all]
/-- .. by a relation -/
theorem lc_rel {J : It} {xs : List V} {st : Hp → Prop} {i : Nat} {σ : L2.St} {H : Hp} {te : TE} {Q : VK} (ov : Over J xs st) (Rr : Addr → V → V → Hp → Prop) (hst : ∀ H', Ext H H' → st H') (hz : xs.length ≤ sizeLine)
    (stab : ∀ D x y H1 H2 l, H1 D = some (.lst l) → ExtB D H1 H2 → Rr D x y H1 → Rr D x y H2)
    (turn : ∀ D l x H1 (M : V → Hp → Prop), x ∈ xs → H D = none → H1 D = some (.lst l) → Ext H H1 → (∀ y H3, Ext H1 H3 → Rr D x y H3 → M y H3) → te (σ.set i (some x)) H1 M)
    (fin : ∀ D H' acc, H D = none → Ext H H' → H' D = some (.lst acc) → All2 (fun x y => Rr D x y H') xs acc → Q (.ref D) H') : LcR (gName i) tYes te [i] σ Q J H := by
  refine lc_over ov (fun _ => true) Rr hst hz stab (fun D l x H1 M N hx hD hl e hM _ => ?_) fun D H' acc hD e hl hR => fin D H' acc hD e hl (by rwa [filter_all] at hR)
  dsimp only [tYes]
  rw [if_pos rfl]
  exact turn D l x H1 M hx hD hl e (hM rfl)
/-- .. the items themselves, by a test -/
theorem lc_fil {J : It} {xs : List V} {st : Hp → Prop} {i : Nat} {σ : L2.St} {H : Hp} {tt : TT} {Q : VK} (ov : Over J xs st) (keep : V → Bool) (hi : i < σ.length) (hst : ∀ H', Ext H H' → st H') (hz : xs.length ≤ sizeLine)
    (turn : ∀ x H1 (M : Bool → Hp → Prop), x ∈ xs → Ext H H1 → (∀ H3, Ext H1 H3 → M (keep x) H3) → tt (σ.set i (some x)) H1 M)
    (fin : ∀ D H', H D = none → Ext H H' → H' D = some (.lst (xs.filter keep)) → Q (.ref D) H') : LcR (gName i) tt (tVar i) [i] σ Q J H := by
  refine lc_over ov keep (fun _ x y _ => y = x) hst hz (fun _ _ _ _ _ _ _ _ h => h) (fun D l x H1 M N hx hD hl e hM hN => ?_) fun D H' acc hD e hl hR => ?_
  · refine turn x H1 _ hx e fun H3 e3 => ?_
    cases hk : keep x with
    | true =>
      rw [if_pos rfl]
      exact ⟨x, by simp [hi], hM hk _ _ e3 rfl⟩
    | false =>
      rw [if_neg (by simp)]
      exact hN hk _ e3
  · refine fin D H' hD e ?_
    rw [hl, show acc = (xs.filter keep).map id from hR.map (f := id), List.map_id]
/-! ### loops -/
/-- what a loop asks of what it walks -/
def FoR (g : TG) (tb : TS) (D : Ends) (σ : L2.St) : It → Hp → Prop := fun J H1 => ∃ W : Nat → Nat → L2.St → Hp → Prop, (∃ m, W 0 m σ H1) ∧ ∀ i m σ H, W i m σ H →
  (J.stop i H ∧ D.nx σ H) ∨ (J.go i H ∧ ∃ N : L2.St → Hp → Prop, (∀ σ' H', N σ' H' → ∃ m', m' < m ∧ W (i + 1) m' σ' H') ∧ ∀ x H', J.yld i H x H' → g x σ H' fun σ2 H2 => tb { D with nx := N, ct := N, bk := D.nx } σ2 H2)
theorem tfor_of {wi : TI} {g : TG} {tb : TS} {D : Ends} {σ : L2.St} {H : Hp} (h : wi σ H (FoR g tb D σ)) : tFor wi g tb D σ H := h
/-- THE LOOP over a sequence: W behind so many items -/
theorem for_over {J : It} {xs : List V} {st : Hp → Prop} {g : TG} {tb : TS} {D : Ends} {σ : L2.St} {H : Hp} (ov : Over J xs st) (W : Nat → L2.St → Hp → Prop) (h0 : W 0 σ H) (hst : ∀ j σ' H', W j σ' H' → st H')
    (turn : ∀ j σ' H' x, W j σ' H' → xs[j]? = some x → g x σ' H' fun σ2 H2 => tb { D with nx := W (j + 1), ct := W (j + 1), bk := D.nx } σ2 H2)
    (fin : ∀ σ' H', W xs.length σ' H' → D.nx σ' H') : FoR g tb D σ J H := by
  refine ⟨fun j m σ' H' => m = xs.length - j ∧ j ≤ xs.length ∧ W j σ' H', ⟨xs.length, by simp, Nat.zero_le _, h0⟩, ?_⟩
  rintro j m σ' H1 ⟨rfl, hj, w⟩
  by_cases hlt : j < xs.length
  · refine .inr ⟨ov.go _ _ hlt (hst _ _ _ w), W (j + 1), fun σ2 H' p' => ⟨xs.length - (j + 1), by omega, rfl, hlt, p'⟩, fun x H' y => ?_⟩
    obtain ⟨rfl, hx⟩ := ov.yld _ _ _ _ hlt (hst _ _ _ w) y
    exact turn j σ' H' x w hx
  · have e : j = xs.length := by omega
    subst e
    exact .inl ⟨ov.stop _ _ (Nat.le_refl _) (hst _ _ _ w), fin _ _ w⟩
/-! ### two fors in one comprehension -/
def Lc2R (g : TG) (tt : TT) (wi1 : TI) (g1 : TG) (tt1 : TT) (te : TE) (vs vs1 : List Nat) (σ : L2.St) (Q : VK) : It → Hp → Prop := fun J H1 => ∀ D, H1 D = none → ∃ W : Nat → Nat → Hp → Prop, (∃ m, W 0 m (upd H1 D (.lst []))) ∧ ∀ i m H, W i m H →
  (J.stop i H ∧ Q (.ref D) H) ∨ (J.go i H ∧ ∃ Nx : Hp → Prop, (∀ H', Nx H' → ∃ m', m' < m ∧ W (i + 1) m' H') ∧ ∀ x H', J.yld i H x H' → g x (wipe σ vs) H' fun σ2 H2 => wipe σ2 vs = wipe σ vs ∧ tt σ2 H2 fun b H3 =>
    if b = true then wi1 σ2 H3 fun J1 H4 => ∃ W1 : Nat → Nat → Hp → Prop, (∃ m, W1 0 m H4) ∧ ∀ j k H, W1 j k H →
      (J1.stop j H ∧ Nx H) ∨ (J1.go j H ∧ ∃ Nx1 : Hp → Prop, (∀ H', Nx1 H' → ∃ k', k' < k ∧ W1 (j + 1) k' H') ∧ ∀ x H', J1.yld j H x H' → g1 x (wipe σ2 vs1) H' fun σ3 H5 => wipe σ3 vs1 = wipe σ2 vs1 ∧ tt1 σ3 H5 fun b H6 =>
        if b = true then te σ3 H6 fun y H7 => ∃ acc, H7 D = some (.lst acc) ∧ acc.length < sizeLine ∧ Nx1 (upd H7 D (.lst (acc ++ [y]))) else Nx1 H6)
    else Nx H3)
theorem tlc2_of {wi wi1 : TI} {g g1 : TG} {tt tt1 : TT} {te : TE} {vs vs1 : List Nat} {σ : L2.St} {H : Hp} {Q : VK} (h : wi σ H (Lc2R g tt wi1 g1 tt1 te vs vs1 σ Q)) : tLc2 wi g tt wi1 g1 tt1 te vs vs1 σ H Q := h
theorem wipe2 {σ : L2.St} {i i1 : Nat} {x : V} (hne : i ≠ i1) : wipe ((wipe σ [i, i1]).set i (some x)) [i, i1] = wipe σ [i, i1] := by
  show ((((σ.set i1 none).set i none).set i (some x)).set i1 none).set i none = (σ.set i1 none).set i none
  rw [List.set_set, List.set_comm _ _ hne, List.set_set, List.set_set]
/-- .. each inner item by a function -/
theorem lc2_map {J : It} {xs : List V} {st : Hp → Prop} {i i1 : Nat} {σ : L2.St} {H : Hp} {wi1 : TI} {te : TE} {Q : VK} (ov : Over J xs st) (hne : i ≠ i1) (ys : V → List V) (f : V → V → V) (hst : ∀ H', Ext H H' → st H') (hz : (xs.flatMap ys).length ≤ sizeLine)
    (turn : ∀ x H1 (R : It → Hp → Prop), x ∈ xs → Ext H H1 → (∀ J1 st1, Over J1 (ys x) st1 → (∀ H', Ext H H' → st1 H') → R J1 H1) → wi1 ((wipe σ [i, i1]).set i (some x)) H1 R)
    (turn2 : ∀ x y H1 (M : V → Hp → Prop), x ∈ xs → y ∈ ys x → Ext H H1 → (∀ H3, Ext H1 H3 → M (f x y) H3) → te ((wipe ((wipe σ [i, i1]).set i (some x)) [i1]).set i1 (some y)) H1 M)
    (fin : ∀ D H', H D = none → Ext H H' → H' D = some (.lst (xs.flatMap fun x => (ys x).map (f x))) → Q (.ref D) H') : Lc2R (gName i) tYes wi1 (gName i1) tYes te [i, i1] [i1] σ Q J H := by
  intro D hD
  let Pv : Nat → Hp → Prop := fun j H' => Ext H H' ∧ H' D = some (.lst ((xs.take j).flatMap fun x => (ys x).map (f x)))
  refine ⟨fun j m H' => m = xs.length - j ∧ j ≤ xs.length ∧ Pv j H', ⟨xs.length, by simp, Nat.zero_le _, Ext.upd hD, by simpa using upd_same⟩, ?_⟩
  rintro j m H1 ⟨rfl, hj, e1, ha⟩
  by_cases hlt : j < xs.length
  · refine .inr ⟨ov.go _ _ hlt (hst _ e1), Pv (j + 1), fun H' p' => ⟨xs.length - (j + 1), by omega, rfl, hlt, p'⟩, fun x H' y => ?_⟩
    obtain ⟨rfl, hx⟩ := ov.yld _ _ _ _ hlt (hst _ e1) y
    have htk : xs.take (j + 1) = xs.take j ++ [x] := by rw [List.take_add_one, hx]; rfl
    have hxm := List.mem_of_getElem? hx
    show wipe ((wipe σ [i, i1]).set i (some x)) [i, i1] = wipe σ [i, i1] ∧ _
    refine ⟨wipe2 hne, ?_⟩
    dsimp only [tYes]
    rw [if_pos rfl]
    refine turn x H' _ hxm e1 fun J1 st1 ov1 hst1 => ?_
    let Pw : Nat → Hp → Prop := fun k H' => Ext H H' ∧ H' D = some (.lst (((xs.take j).flatMap fun x => (ys x).map (f x)) ++ ((ys x).take k).map (f x)))
    refine ⟨fun k m H' => m = (ys x).length - k ∧ k ≤ (ys x).length ∧ Pw k H', ⟨(ys x).length, by simp, Nat.zero_le _, e1, by simpa using ha⟩, ?_⟩
    rintro k m H2 ⟨rfl, hk, e2, hb⟩
    by_cases hlk : k < (ys x).length
    · refine .inr ⟨ov1.go _ _ hlk (hst1 _ e2), Pw (k + 1), fun H' p' => ⟨(ys x).length - (k + 1), by omega, rfl, hlk, p'⟩, fun y H'' yy => ?_⟩
      obtain ⟨rfl, hy⟩ := ov1.yld _ _ _ _ hlk (hst1 _ e2) yy
      have htk1 : (ys x).take (k + 1) = (ys x).take k ++ [y] := by rw [List.take_add_one, hy]; rfl
      show wipe ((wipe ((wipe σ [i, i1]).set i (some x)) [i1]).set i1 (some y)) [i1] = wipe ((wipe σ [i, i1]).set i (some x)) [i1] ∧ _
      refine ⟨by simp [wipe], ?_⟩
      rw [if_pos rfl]
      refine turn2 x y H'' _ hxm (List.mem_of_getElem? hy) e2 fun H3 e3 => ?_
      refine ⟨_, e3 _ _ hb, ?_, Ext.upd_back (o := .lst []) hD (e2.trans e3) extB_upd, ?_⟩
      · have h1 : ((xs.take (j + 1)).flatMap ys).length ≤ (xs.flatMap ys).length := by
          conv => rhs; rw [← List.take_append_drop (j + 1) xs]
          rw [List.flatMap_append, List.length_append]; omega
        rw [htk, List.flatMap_append, List.length_append, List.flatMap_cons, List.flatMap_nil, List.append_nil] at h1
        have h2 : ((xs.take j).flatMap fun x => (ys x).map (f x)).length = ((xs.take j).flatMap ys).length := by simp [List.length_flatMap]
        rw [List.length_append, h2, List.length_map, List.length_take]
        omega
      · rw [upd_same, htk1, List.map_append, ← List.append_assoc]; rfl
    · have e : k = (ys x).length := by omega
      subst e
      refine .inl ⟨ov1.stop _ _ (Nat.le_refl _) (hst1 _ e2), e2, ?_⟩
      rw [hb, htk, List.flatMap_append]
      simp
  · have e : j = xs.length := by omega
    subst e
    exact .inl ⟨ov.stop _ _ (Nat.le_refl _) (hst _ e1), fin D _ hD e1 (by simpa using ha)⟩
/-- .. what is walked, from an earlier heap -/
theorem iseq_from {K : PySem.W.Frag} {H H1 : Hp} {a : Addr} {xs : List V} {R : It → Hp → Prop} (h : Sq K H a xs) (e : Ext H H1) (q : ∀ J st, Over J xs st → (∀ H', Ext H H' → st H') → R J H1) :
    ∃ a' xs', V.ref a = .ref a' ∧ ((SqL K H1 a' xs' ∧ R (Itl K a') H1) ∨ (SqT K H1 a' xs' ∧ R (Itt K a') H1)) := by
  refine ⟨a, xs, rfl, ?_⟩
  rcases h with h | h
  · exact .inl ⟨h.ext e, q _ _ over_list fun H' e => h.ext e⟩
  · exact .inr ⟨h.ext e, q _ _ over_tup fun H' e => h.ext e⟩
end G
end

section
set_option Elab.async false
set_option linter.all false
set_option maxRecDepth 100000
set_option maxHeartbeats 1000000
/-! slices, enumerate, dict comprehensions: words -/
namespace G
open PySem PySem.Spec PyProof.Rows L2
theorem cut_lo (xs : List V) (k : Nat) : cutV xs (some (k : Int)) none = xs.drop k := by
  unfold cutV
  rw [HT.sIx_nat, HT.sIx_none]
  by_cases h : k ≤ xs.length
  · rw [Nat.min_eq_left h, List.take_of_length_le (by simp)]
  · rw [Nat.min_eq_right (by omega), List.drop_eq_nil_of_le (by omega : xs.length ≤ k)]; simp
theorem cut_hi (xs : List V) (k : Nat) : cutV xs none (some (k : Int)) = xs.take k := by
  unfold cutV
  rw [HT.sIx_nat, HT.sIx_none]
  simp
theorem cut_all {xs : List V} {lo hi : Option Int} (h : HT.sIx xs.length 0 lo = 0 ∧ HT.sIx xs.length xs.length hi = xs.length) : cutV xs lo hi = xs := by
  unfold cutV
  rw [h.1, h.2]; simp
/-- slices of a list or a tuple -/
def rSlQ (K : PySem.W.Frag) : V → Option Int → Option Int → Hp → VK → Prop := fun x lo hi H Q => rSlL K x lo hi H Q ∨ rSlA K x lo hi H Q
theorem sl_seq {X : Cx} : SlR X (rSlQ X.K) := SlR.or sl_list sl_tupA
theorem slq_of {K : PySem.W.Frag} {H : Hp} {a : Addr} {xs : List V} {lo hi : Option Int} {Q : VK} (h : Sq K H a xs) (q : ∀ p H', Ext H H' → Sq K H' p (cutV xs lo hi) → Q (.ref p) H') : rSlQ K (.ref a) lo hi H Q := by
  rcases h with h | h
  · exact .inl ⟨a, xs, rfl, h, fun p hp => q p _ (Ext.upd hp) (.lst upd_same)⟩
  · exact .inr ⟨a, xs, rfl, h, fun hw => q a H Ext.rfl' (.inr (by rw [cut_all hw]; exact h)), fun hw p hp => q p _ (Ext.upd hp) (.tup upd_same)⟩
/-- enumerate: each item in a new pair -/
structure OverE (J : It) (xs : List V) (st : Hp → Prop) : Prop where
  go : ∀ i H, i < xs.length → st H → J.go i H
  stop : ∀ H, st H → J.stop xs.length H
  yld : ∀ i H v H', i < xs.length → st H → J.yld i H v H' → ∃ T x, v = .ref T ∧ H T = none ∧ H' = upd H T (.tup [.int (i : Nat), x]) ∧ xs[i]? = some x
theorem overE_list {K : PySem.W.Frag} {a : Addr} {xs : List V} : OverE (Ite K a) xs (fun H => SqL K H a xs) :=
  ⟨fun i H hi h => ⟨xs, xs[i], h, by simp [hi]⟩, fun H h => ⟨xs, h, Nat.le_refl _⟩, fun i H x H' hi h y => by obtain ⟨T, z, e1, e2, e3, e4⟩ := y; exact ⟨T, z, e1, e2, e3, e4 xs h⟩⟩
theorem overE_tup {K : PySem.W.Frag} {a : Addr} {xs : List V} : OverE (Itet K a) xs (fun H => SqT K H a xs) :=
  ⟨fun i H hi h => ⟨xs, xs[i], h, by simp [hi]⟩, fun H h => ⟨xs, h, rfl⟩, fun i H x H' hi h y => by obtain ⟨T, z, e1, e2, e3, e4⟩ := y; exact ⟨T, z, e1, e2, e3, e4 xs h⟩⟩
theorem ienum_of {K : PySem.W.Frag} {H : Hp} {a : Addr} {xs : List V} {R : It → Hp → Prop} (h : Sq K H a xs) (q : ∀ J st, OverE J xs st → (∀ H', Ext H H' → st H') → R J H) :
    ∃ a' xs', [V.ref a] = [.ref a'] ∧ ((SqL K H a' xs' ∧ R (Ite K a') H) ∨ (SqT K H a' xs' ∧ R (Itet K a') H)) := by
  refine ⟨a, xs, rfl, ?_⟩
  rcases h with h | h
  · exact .inl ⟨h, q _ _ overE_list fun H' e => h.ext e⟩
  · exact .inr ⟨h, q _ _ overE_tup fun H' e => h.ext e⟩
theorem for_enum {J : It} {xs : List V} {st : Hp → Prop} {g : TG} {tb : TS} {D : Ends} {σ : L2.St} {H : Hp} (ov : OverE J xs st) (W : Nat → L2.St → Hp → Prop) (h0 : W 0 σ H) (hst : ∀ j σ' H', W j σ' H' → st H')
    (turn : ∀ j σ' H' T x, W j σ' H' → xs[j]? = some x → H' T = none → g (.ref T) σ' (upd H' T (.tup [.int (j : Nat), x])) fun σ2 H2 => tb { D with nx := W (j + 1), ct := W (j + 1), bk := D.nx } σ2 H2)
    (fin : ∀ σ' H', W xs.length σ' H' → D.nx σ' H') : FoR g tb D σ J H := by
  refine ⟨fun j m σ' H' => m = xs.length - j ∧ j ≤ xs.length ∧ W j σ' H', ⟨xs.length, by simp, Nat.zero_le _, h0⟩, ?_⟩
  rintro j m σ' H1 ⟨rfl, hj, w⟩
  by_cases hlt : j < xs.length
  · refine .inr ⟨ov.go _ _ hlt (hst _ _ _ w), W (j + 1), fun σ2 H' p' => ⟨xs.length - (j + 1), by omega, rfl, hlt, p'⟩, fun x H' y => ?_⟩
    obtain ⟨T, z, rfl, hT, rfl, hx⟩ := ov.yld _ _ _ _ hlt (hst _ _ _ w) y
    exact turn j σ' H1 T z w hx hT
  · have e : j = xs.length := by omega
    subst e
    exact .inl ⟨ov.stop _ (hst _ _ _ w), fin _ _ w⟩
/-! ### a dict by a comprehension -/
def DcR (g : TG) (tt : TT) (tk tv : TE) (vs : List Nat) (σ : L2.St) (Q : VK) : It → Hp → Prop := fun J H1 => ∀ D, H1 D = none → ∃ W : Nat → Nat → Hp → Prop, (∃ m, W 0 m (upd H1 D (.dK []))) ∧ ∀ i m H, W i m H →
  (J.stop i H ∧ Q (.ref D) H) ∨ (J.go i H ∧ ∃ Nx : Hp → Prop, (∀ H', Nx H' → ∃ m', m' < m ∧ W (i + 1) m' H') ∧ ∀ x H', J.yld i H x H' → g x (wipe σ vs) H' fun σ2 H2 => wipe σ2 vs = wipe σ vs ∧ tt σ2 H2 fun b H3 =>
    if b = true then tk σ2 H3 fun y H4 => tv σ2 H4 fun z H5 => ∃ kvs k, y = kV k ∧ H5 D = some (.dK kvs) ∧ kvs.length < sizeLine ∧ Nx (upd H5 D (.dK (putK kvs k z))) else Nx H3)
theorem tdc_of {wi : TI} {g : TG} {tt : TT} {tk tv : TE} {vs : List Nat} {σ : L2.St} {H : Hp} {Q : VK} (h : wi σ H (DcR g tt tk tv vs σ Q)) : tDc wi g tt tk tv vs σ H Q := h
/-- .. each item its key by a function, itself the value -/
theorem dc_over {J : It} {xs : List V} {st : Hp → Prop} {i : Nat} {σ : L2.St} {H : Hp} {tk : TE} {Q : VK} (ov : Over J xs st) (key : V → Key → Prop) (hi : i < σ.length) (hst : ∀ H', Ext H H' → st H') (hz : xs.length ≤ sizeLine)
    (turn : ∀ x H1 (M : V → Hp → Prop), x ∈ xs → Ext H H1 → (∀ k H3, key x k → Ext H1 H3 → M (kV k) H3) → tk (σ.set i (some x)) H1 M)
    (fin : ∀ D H' kvs, H D = none → Ext H H' → H' D = some (.dK kvs) → (kvs.map (·.1)).Nodup → kvs.length ≤ xs.length → (∀ k v, valV kvs k = some v → v ∈ xs ∧ key v k) → (∀ x ∈ xs, ∃ k, key x k ∧ (valV kvs k).isSome = true) → Q (.ref D) H') :
    DcR (gName i) tYes tk (tVar i) [i] σ Q J H := by
  intro D hD
  let Pv : Nat → Hp → Prop := fun j H' => Ext H H' ∧ ∃ kvs, H' D = some (.dK kvs) ∧ (kvs.map (·.1)).Nodup ∧ kvs.length ≤ j ∧ (∀ k v, valV kvs k = some v → v ∈ xs ∧ key v k) ∧ ∀ x ∈ xs.take j, ∃ k, key x k ∧ (valV kvs k).isSome = true
  refine ⟨fun j m H' => m = xs.length - j ∧ j ≤ xs.length ∧ Pv j H', ⟨xs.length, by simp, Nat.zero_le _, Ext.upd hD, [], upd_same, by simp, Nat.le_refl _, fun k v h => (by rw [valV_nil] at h; cases h), fun x hx => absurd hx (by simp)⟩, ?_⟩
  rintro j m H1 ⟨rfl, hj, e1, kvs, ha, hn, hl, hA, hB⟩
  by_cases hlt : j < xs.length
  · refine .inr ⟨ov.go _ _ hlt (hst _ e1), Pv (j + 1), fun H' p' => ⟨xs.length - (j + 1), by omega, rfl, hlt, p'⟩, fun x H' y => ?_⟩
    obtain ⟨rfl, hx⟩ := ov.yld _ _ _ _ hlt (hst _ e1) y
    have hw : (wipe σ [i]).set i (some x) = σ.set i (some x) := by simp [wipe]
    have htk : xs.take (j + 1) = xs.take j ++ [x] := by rw [List.take_add_one, hx]; rfl
    have hxm := List.mem_of_getElem? hx
    show wipe ((wipe σ [i]).set i (some x)) [i] = wipe σ [i] ∧ _
    rw [hw]
    refine ⟨by simp [wipe], ?_⟩
    dsimp only [tYes]
    rw [if_pos rfl]
    refine turn x H' _ hxm e1 fun k H3 hk e3 => ?_
    refine ⟨x, by simp [hi], kvs, k, rfl, e3 _ _ ha, by omega, Ext.upd_back (o := .dK []) hD (e1.trans e3) extB_upd, _, upd_same, ?_, ?_, ?_, ?_⟩
    · cases hv : valV kvs k with
      | none => exact nd_putK x hn hv
      | some v =>
        have hany : (kvs.any fun kv => decide (kv.1 = k)) = true := by rw [valV_any, hv]; rfl
        have : (putK kvs k x).map (·.1) = kvs.map (·.1) := by
          unfold putK
          rw [if_pos hany, List.map_map]
          apply List.map_congr_left
          intro kv _
          by_cases e : kv.1 = k <;> simp [e]
        rw [this]; exact hn
    · exact Nat.le_trans (length_putK kvs k x) (by omega)
    · intro k' v' h'
      rw [valV_put] at h'
      by_cases e : k' = k
      · rw [if_pos e] at h'
        cases h'
        exact ⟨hxm, e ▸ hk⟩
      · rw [if_neg e] at h'
        exact hA k' v' h'
    · intro x' hx'
      rw [htk] at hx'
      rcases List.mem_append.mp hx' with h | h
      · obtain ⟨k', h1, h2⟩ := hB x' h
        refine ⟨k', h1, ?_⟩
        rw [valV_put]
        split
        · rfl
        · exact h2
      · rw [List.mem_singleton.mp h]
        exact ⟨k, hk, by rw [valV_put, if_pos rfl]; rfl⟩
  · have e : j = xs.length := by omega
    subst e
    exact .inl ⟨ov.stop _ _ (Nat.le_refl _) (hst _ e1), fin D _ kvs hD e1 ha hn hl hA (by simpa using hB)⟩
end G
end

section
set_option Elab.async false
set_option linter.all false
set_option maxRecDepth 100000
set_option maxHeartbeats 1000000
/-! own operators of instances -/
namespace G
open PySem PySem.Spec PyProof.Rows L2
section
variable {X : Cx} {CX : CXT} {k : Nat} {C f : Addr} {fd : FuncData} {ps : List Str} {sp : Sp} {E : XK}
theorem cmpback' {P : Value → Shared → Prop} {z : V} {v : Value} {s' : Shared} (r : RelV z v) (h : P v s') : PySem.W.CmpBack P v s' := by
  cases z with
  | non => cases (show v = Value.none from r); exact h
  | bl b => cases (show v = Value.bool b from r); exact h
  | int i => obtain ⟨t, e⟩ := (show ∃ t, v = Value.int i t from r); cases e; exact h
  | str x => obtain ⟨t, e⟩ := (show ∃ t, v = Value.str x t from r); cases e; exact h
  | byt x => obtain ⟨t, e⟩ := (show ∃ t, v = Value.bytes x t from r); cases e; exact h
  | flt x => obtain ⟨t, e⟩ := (show ∃ t, v = Value.float x t from r); cases e; exact h
  | ref a => cases (show v = Value.ref a from r); exact h
  | ty n => cases (show v = Value.type n from r); exact h
/-- x op y of two instances, by x's own def -/
def rOwnC (K : PySem.W.Frag) (C : Addr) (sp : Sp) (E : XK) : R2 := fun x y H Q => ∃ a dx fs b C' dy gs, x = .ref a ∧ y = .ref b ∧ H a = some (.ins C dx fs) ∧ H b = some (.ins C' dy gs) ∧ PySem.W.notFirst K C (.ref C') = true ∧ sp [x, y] H Q E
theorem op_ownC {op : CmpOp} (F : FnOk X.prog X.w X.K X.mg X.base CX k f fd ps sp) (hs : PySem.W.findIn X.K (.ref C) (cmpInfo op).2.1 = some (some (.ref f))) (hf : PySem.W.isFn X.K (.ref f) = true) (hr : Room k X.A) (hb : Binds X.K fd ps []) (hx : Passes CX X E)
    (hop : ∀ a b, compareOp op a b = richCompare op a b := by intro _ _; rfl) : OpR X (compareOp op) (rOwnC X.K C sp E) := by
  intro pins s σ H x y v u Q I rx ry h
  obtain ⟨a, dx, fs, b, C', dy, gs, rfl, rfl, ha, hb', hn, q⟩ := h
  cases (show v = Value.ref a from rx)
  cases (show u = Value.ref b from ry)
  obtain ⟨mA, J, _⟩ := ins_get I.hok ha
  obtain ⟨od, J, _⟩ := J.look
  obtain ⟨mB, J', _⟩ := ins_get I.hok hb'
  obtain ⟨od', J', _⟩ := J'.look
  obtain ⟨m, hF⟩ := I.fr
  rw [hop]
  refine PySem.W.cmp_K (op := op) (tb := .ref C') hr.units0 hF I.ok.mod.kin J J'.type hn hs hf ?_
  refine wpAny_mono (run_fn (dvs := []) (ds := []) (us := [.ref a, .ref b]) (vs := [.ref a, .ref b]) F hr hb .nil hx I (.cons rfl (.cons rfl .nil)) (by rw [List.append_nil]; exact q)) (fun w s' z => ?_) fun _ _ x => x
  obtain ⟨z', H', I', rz, qz⟩ := z
  exact cmpback' rz ⟨z', H', I', rz, qz⟩
/-- x & y of two instances of one class -/
def rOwnB (C : Addr) (sp : Sp) (E : XK) : R2 := fun x y H Q => ∃ a dx fs b dy gs, x = .ref a ∧ y = .ref b ∧ H a = some (.ins C dx fs) ∧ H b = some (.ins C dy gs) ∧ sp [x, y] H Q E
theorem op_ownB {op : Operator} (F : FnOk X.prog X.w X.K X.mg X.base CX k f fd ps sp) (hc : PySem.W.selfFirst X.K C = true) (hs : PySem.W.findIn X.K (.ref C) (PySem.dunder op.info.2) = some (some (.ref f))) (hf : PySem.W.isFn X.K (.ref f) = true) (hr : Room k X.A) (hb : Binds X.K fd ps []) (hx : Passes CX X E) :
    OpR X (binaryOp op) (rOwnB C sp E) := by
  intro pins s σ H x y v u Q I rx ry h
  obtain ⟨a, dx, fs, b, dy, gs, rfl, rfl, ha, hb', q⟩ := h
  cases (show v = Value.ref a from rx)
  cases (show u = Value.ref b from ry)
  obtain ⟨mA, J, _⟩ := ins_get I.hok ha
  obtain ⟨od, J, _⟩ := J.look
  obtain ⟨mB, J', _⟩ := ins_get I.hok hb'
  obtain ⟨od', J', _⟩ := J'.look
  obtain ⟨m, hF⟩ := I.fr
  refine PySem.W.binop_K (op := op) hF I.ok.mod.kin J J'.type hc hs hf ?_
  refine wpAny_mono (run_fn (dvs := []) (ds := []) (us := [.ref a, .ref b]) (vs := [.ref a, .ref b]) F hr hb .nil hx I (.cons rfl (.cons rfl .nil)) (by rw [List.append_nil]; exact q)) (fun w s' z => ?_) fun _ _ x => x
  obtain ⟨z', H', I', rz, qz⟩ := z
  exact cmpback' rz ⟨z', H', I', rz, qz⟩
/-- x in y, y an instance with its own __contains__ -/
def rOwnIn (C : Addr) (sp : Sp) (E : XK) : R2 := fun x y H Q => ∃ a dx fs, y = .ref a ∧ H a = some (.ins C dx fs) ∧ sp [y, x] H (fun v H' => ∃ b, v = .bl b ∧ Q (.bl b) H') E
theorem op_ownIn (F : FnOk X.prog X.w X.K X.mg X.base CX k f fd ps sp) (hs : PySem.W.findIn X.K (.ref C) "__contains__" = some (some (.ref f))) (hf : PySem.W.isFn X.K (.ref f) = true) (hr : Room k X.A) (hb : Binds X.K fd ps []) (hx : Passes CX X E) : OpR X (compareOp .In) (rOwnIn C sp E) := by
  intro pins s σ H x y v u Q I rx ry h
  obtain ⟨a, dx, fs, rfl, ha, q⟩ := h
  cases (show u = Value.ref a from ry)
  obtain ⟨mA, J, _⟩ := ins_get I.hok ha
  obtain ⟨od, J, _⟩ := J.look
  obtain ⟨m, hF⟩ := I.fr
  refine PySem.W.in_K hF I.ok.mod.kin J hs hf ?_
  refine wpAny_mono (run_fn (dvs := []) (ds := []) (us := [.ref a, v]) (vs := [.ref a, x]) F hr hb .nil hx I (.cons rfl (.cons rx .nil)) (by rw [List.append_nil]; exact q)) (fun w s' z => ?_) fun _ _ x => x
  obtain ⟨z', H', I', rz, b, rfl, qz⟩ := z
  cases rz
  exact wpAny_truthy_bool ⟨.bl b, H', I', rfl, qz⟩
/-- str(x) by x's own __str__ -/
def rOwnStr (C : Addr) (sp : Sp) (E : XK) : List V → Hp → VK → Prop := fun vs H Q => ∃ a dx fs, vs = [.ref a] ∧ H a = some (.ins C dx fs) ∧ sp [.ref a] H (fun v H' => ∃ x, v = .str x ∧ Q (.str x) H') E
theorem cr_ownStr (F : FnOk X.prog X.w X.K X.mg X.base CX k f fd ps sp) (hs : PySem.W.findIn X.K (.ref C) "__str__" = some (some (.ref f))) (hf : PySem.W.isFn X.K (.ref f) = true) (hr : Room (k + 2) X.A) (hb : Binds X.K fd ps []) (hx : Passes CX X E) : CallR X (.type "str") (rOwnStr C sp E) := by
  intro pins s σ H xs us Q I r h
  obtain ⟨a, dx, fs, rfl, ha, q⟩ := h
  obtain ⟨u, rfl, ru⟩ := vals1 r
  cases (show u = Value.ref a from ru)
  obtain ⟨mA, J, _⟩ := ins_get I.hok ha
  obtain ⟨od, J, _⟩ := J.look
  have hr2 : Room k X.A.in1.in1 := hr.in1.in1
  refine PySem.W.kso_call hr2.units0 I.kIn J hs hf ?_
  have hsp : sp ([.ref a] ++ []) H (fun v H' => ∃ x, v = .str x ∧ Q (.str x) H') E := by rw [List.append_nil]; exact q
  have hl := F.len _ _ _ _ hsp
  have sb : Sub X k X.A.in1.in1 := ⟨hr2, rfl⟩
  refine wpAny_call (codeAny_mono (F.run X.A.in1.in1 X.stack s H ⟨[.ref a], []⟩ [.ref a] [.ref a] _ E hr2 (sub_env0 sb I) (by
    have := hb s [.ref a] I.kIn (by simpa using hl)
    simpa using this) (.cons rfl .nil) (by rw [List.append_nil] at hsp; exact hsp)) fun r s' hq => ?_)
  cases r with
  | error e => exact hx pins σ H s e s' I hq
  | ok fl =>
    cases fl with
    | ret w =>
      obtain ⟨z, H', I', rz, x, rfl, qz⟩ := I.after hq
      obtain ⟨t, rfl⟩ := rz
      exact ⟨.str x, H', I', ⟨t, rfl⟩, qz⟩
    | next => exact False.elim hq
    | brk => exact False.elim hq
    | cont => exact False.elim hq
end
end G
end

section
set_option Elab.async false
set_option linter.all false
set_option maxRecDepth 100000
set_option maxHeartbeats 1000000
/-! the facts of the top; rules by them -/
namespace G
open PySem PySem.Spec PyProof.Rows L2
open C8 (fnScope fnBody fnArgs Cal Met Mak)
abbrev XK0 : XK := fun _ _ _ => False
structure Dfn (K : PySem.W.Frag) (mg : Str → Option Value) (x n : Str) (st : Stmt) : Prop where
  ex : ∃ (f : Addr) (fd : FuncData), C8.Fun K n n st f fd ∧ mg x = some (.ref f) ∧ PySem.W.keepIn K (.ref f) = true ∧ fd.defaults = .none
structure Mtd (K : PySem.W.Frag) (C : Addr) (m q : Str) (st : Stmt) : Prop where
  ex : ∃ (f : Addr) (fd : FuncData), Meth K C m f ∧ C8.Fun K m q st f fd ∧ fd.defaults = .none
structure Ppd (K : PySem.W.Frag) (C : Addr) (m q : Str) (st : Stmt) : Prop where
  ex : ∃ (p f : Addr) (fd : FuncData), PropOf K C m p f ∧ C8.Fun K m q st f fd ∧ fd.defaults = .none
structure Mkd (K : PySem.W.Frag) (C : Addr) (q : Str) (st : Stmt) : Prop where
  ex : ∃ (f : Addr) (fd : FuncData), Mk K C f ∧ C8.Fun K "__init__" q st f fd ∧ fd.defaults = .none
/-- a def with defaults, as it is called without them -/
structure DfnB (K : PySem.W.Frag) (mg : Str → Option Value) (x n : Str) (st : Stmt) (ps : List Str) (dvs : List V) : Prop where
  ex : ∃ (f : Addr) (fd : FuncData) (ds : List Value), C8.Fun K n n st f fd ∧ mg x = some (.ref f) ∧ PySem.W.keepIn K (.ref f) = true ∧ Binds K fd ps ds ∧ Vals dvs ds
/-- an __init__ whose last parameter has an empty tuple for default -/
structure MkdB (K : PySem.W.Frag) (C : Addr) (q : Str) (st : Stmt) (ps : List Str) : Prop where
  ex : ∃ (f : Addr) (fd : FuncData) (T : Addr) (ds : List Value), Mk K C f ∧ C8.Fun K "__init__" q st f fd ∧ Binds K fd ps [] ∧ (∀ H : Hp, SqT K H T []) ∧ Vals [.ref T] ds ∧ Binds K fd ps ds
section
variable {P : Program} {w : World} {K : PySem.W.Frag} {mg : Str → Option Value} {base : Heap}
abbrev Body (P : Program) (w : World) (K : PySem.W.Frag) (mg : Str → Option Value) (base : Heap) (k : Nat) (qual : Str) (st : Stmt) (N : List Str) (sp : Sp) : Prop :=
  ∀ (f : Addr) (cdv : Value) (A : Around) (outer : List Env) (s : Shared) (H : Hp) (vs : List V) (Q : VK) (E : XK), Room k (A.deeper (envOfC qual (fnScope st) s.heap.objs.size f cdv)) → sp vs H Q E →
      ∃ t, PSs (cxOf CX0 P w K mg base N qual (fnScope st) f cdv A outer s H E).nox (fnBody st) t ∧ t { nx := fun _ H' => Q .non H', rt := Q } (start N vs) H
abbrev BindQ (n qual : Str) (st : Stmt) (ps : List Str) : Prop := ∀ (kV doc pm : Value) (an : Option Addr) (cdv ct : Value) (us : List Value), us.length = ps.length → bindArgs (PySem.W.fnOf n qual (fnArgs st) (fnBody st) (fnScope st) .none kV doc pm an cdv ct) ⟨us, []⟩ = pure (ps.zip us)
theorem cal_of {x n : Str} {st : Stmt} {N ps : List Str} {k : Nat} {sp : Sp} (D : Dfn K mg x n st) (S : FnScope N ps (fnScope st)) (bd : BindQ n n st ps) (len : ∀ vs H Q E, sp vs H Q E → vs.length = ps.length) (hb : Body P w K mg base k n st N sp) : Cal P w K mg base (k + 1) x sp [] := by
  obtain ⟨f, fd, F, g, kp, df⟩ := D.ex
  exact ⟨f, fd, ps, [], C8.fn0 F S len (hb f), g, kp, C8.Fun.binds F df bd, .nil⟩
theorem met_of {C : Addr} {m q : Str} {st : Stmt} {N ps : List Str} {k : Nat} {sp : Sp} (c : Cls K C) (D : Mtd K C m q st) (S : FnScope N ps (fnScope st)) (bd : BindQ m q st ps) (len : ∀ vs H Q E, sp vs H Q E → vs.length = ps.length) (hb : Body P w K mg base k q st N sp) : Met P w K mg base (k + 1) C m sp [] := by
  obtain ⟨f, fd, M, F, df⟩ := D.ex
  exact ⟨f, fd, ps, [], c, M, C8.fn0 F S len (hb f), C8.Fun.binds F df bd, .nil⟩
theorem mak_of {C : Addr} {x q : Str} {st : Stmt} {N ps : List Str} {k : Nat} {sp : Sp} (g : mg x = some (.ref C)) (D : Mkd K C q st) (S : FnScope N ps (fnScope st)) (bd : BindQ "__init__" q st ps) (len : ∀ vs H Q E, sp vs H Q E → vs.length = ps.length) (hb : Body P w K mg base k q st N sp) : Mak P w K mg base (k + 1) x C sp [] := by
  obtain ⟨f, fd, M, F, df⟩ := D.ex
  exact ⟨f, fd, ps, [], M, C8.fn0 F S len (hb f), g, C8.Fun.binds F df bd, .nil⟩
theorem calB_of {x n : Str} {st : Stmt} {N ps : List Str} {dvs : List V} {k : Nat} {sp : Sp} (D : DfnB K mg x n st ps dvs) (S : FnScope N ps (fnScope st)) (len : ∀ vs H Q E, sp vs H Q E → vs.length = ps.length) (hb : Body P w K mg base k n st N sp) : Cal P w K mg base (k + 1) x sp dvs := by
  obtain ⟨f, fd, ds, F, g, kp, b, d⟩ := D.ex
  exact ⟨f, fd, ps, ds, C8.fn0 F S len (hb f), g, kp, b, d⟩
theorem makB_of {C : Addr} {x q : Str} {st : Stmt} {N ps : List Str} {k : Nat} {sp : Sp} (g : mg x = some (.ref C)) (D : MkdB K C q st ps) (S : FnScope N ps (fnScope st)) (len : ∀ vs H Q E, sp vs H Q E → vs.length = ps.length) (hb : Body P w K mg base k q st N sp) :
    Mak P w K mg base (k + 1) x C sp [] ∧ ∃ T, (∀ H : Hp, SqT K H T []) ∧ Mak P w K mg base (k + 1) x C sp [.ref T] := by
  obtain ⟨f, fd, T, ds, M, F, b, hT, d, b'⟩ := D.ex
  exact ⟨⟨f, fd, ps, [], M, C8.fn0 F S len (hb f), g, b, .nil⟩, T, hT, ⟨f, fd, ps, ds, M, C8.fn0 F S len (hb f), g, b', d⟩⟩
/-- a property -/
structure Prp (P : Program) (w : World) (K : PySem.W.Frag) (mg : Str → Option Value) (base : Heap) (k : Nat) (C : Addr) (m : Str) (sp : Sp) : Prop where
  ex : ∃ (p f : Addr) (fd : FuncData) (ps : List Str), Cls K C ∧ PropOf K C m p f ∧ FnOk P w K mg base CX0 k f fd ps sp ∧ Binds K fd ps []
theorem prp_of {C : Addr} {m q : Str} {st : Stmt} {N ps : List Str} {k : Nat} {sp : Sp} (c : Cls K C) (D : Ppd K C m q st) (S : FnScope N ps (fnScope st)) (bd : BindQ m q st ps) (len : ∀ vs H Q E, sp vs H Q E → vs.length = ps.length) (hb : Body P w K mg base k q st N sp) : Prp P w K mg base (k + 1) C m sp := by
  obtain ⟨p, f, fd, M, F, df⟩ := D.ex
  exact ⟨p, f, fd, ps, c, M, C8.fn0 F S len (hb f), C8.Fun.binds F df bd⟩
end
section
variable {X : Cx} {k j : Nat} {C : Addr} {m : Str} {sp : Sp}
theorem passN {X : Cx} {E : XK} : Passes CX0 X E := fun _ _ _ _ _ _ _ h => h.elim
theorem pe_pr {e : Expr} {pos : Pos} {ta : TE} (c : Prp X.prog X.w X.K X.mg X.base k C m sp) (hr : Room j X.A) (hk : k + 1 ≤ j) (he : PE X e ta) (hab : attributeBase e m X.env (eval e X.env) = eval e X.env := by rfl) : PE X (.Attribute e m pos) (tProp C sp [] XK0 ta) := by
  obtain ⟨p, f, fd, ps, hc, hp, F, b⟩ := c.ex
  exact pe_prop he hc hp F (hr.mono hk) b .nil passN hab
theorem op_met {op : CmpOp} (c : Met X.prog X.w X.K X.mg X.base k C (cmpInfo op).2.1 sp []) (hr : Room j X.A) (hk : k ≤ j) (hop : ∀ a b, compareOp op a b = richCompare op a b := by intro _ _; rfl) : OpR X (compareOp op) (rOwnC X.K C sp XK0) := by
  obtain ⟨f, fd, ps, ds, hc, hm, F, b, d⟩ := c.ex
  cases d
  exact op_ownC F hm.at_ hm.fn (hr.mono hk) b passN hop
theorem op_and_met (c : Met X.prog X.w X.K X.mg X.base k C "__and__" sp []) (hf : PySem.W.selfFirst X.K C = true) (hr : Room j X.A) (hk : k ≤ j) : OpR X (binaryOp .BitAnd) (rOwnB C sp XK0) := by
  obtain ⟨f, fd, ps, ds, hc, hm, F, b, d⟩ := c.ex
  cases d
  exact op_ownB (op := .BitAnd) F hf hm.at_ hm.fn (hr.mono hk) b passN
theorem op_in_met (c : Met X.prog X.w X.K X.mg X.base k C "__contains__" sp []) (hr : Room j X.A) (hk : k ≤ j) : OpR X (compareOp .In) (rOwnIn C sp XK0) := by
  obtain ⟨f, fd, ps, ds, hc, hm, F, b, d⟩ := c.ex
  cases d
  exact op_ownIn F hm.at_ hm.fn (hr.mono hk) b passN
theorem cr_str_met (c : Met X.prog X.w X.K X.mg X.base k C "__str__" sp []) (hr : Room j X.A) (hk : k + 2 ≤ j) : CallR X (.type "str") (rOwnStr C sp XK0) := by
  obtain ⟨f, fd, ps, ds, hc, hm, F, b, d⟩ := c.ex
  cases d
  exact cr_ownStr F hm.at_ hm.fn (hr.mono hk) b passN
end
section
variable {CX : CXT} {P : Program} {w : World} {K : PySem.W.Frag} {mg : Str → Option Value} {base : Heap} {N : List Str} {qual : Str} {scope : Scope} {f : Addr} {cdv : Value} {A : Around} {outer : List Env} {s : Shared} {H : Hp} {E : XK}
theorem cxK : (cxOf CX P w K mg base N qual scope f cdv A outer s H E).K = K := rfl
theorem cxw : (cxOf CX P w K mg base N qual scope f cdv A outer s H E).w = w := rfl
theorem cxnK : (cxOf CX P w K mg base N qual scope f cdv A outer s H E).nox.K = K := rfl
theorem cxnw : (cxOf CX P w K mg base N qual scope f cdv A outer s H E).nox.w = w := rfl
end
/-- opens the readings of a def's text -/
theorem mk {op : CmpOp} {b : Expr} (h : behindInMarks op b = false := by first | exact nomark _ (by decide) (by decide) | rfl) : behindInMarks op b = false := h
/-! the same rules with the text's facts named (within a comprehension) -/
theorem opIn {X : Cx} (K : PySem.W.Frag) (h : X.K = K := by rfl) : OpR X (compareOp .In) (rIn K false) := by subst h; exact op_in_seq
theorem opNotIn {X : Cx} (K : PySem.W.Frag) (h : X.K = K := by rfl) : OpR X (compareOp .NotIn) (rIn K true) := by subst h; exact op_notIn_seq
theorem pi_seqK {X : Cx} (K : PySem.W.Frag) {tg e : Expr} {te : TE} (he : PE X e te) (h : X.K = K := by rfl) : PI X tg e (iSeq K te) := by subst h; exact pi_seq he
theorem pe_fldK {X : Cx} (K : PySem.W.Frag) {e : Expr} {ta : TE} {f : Str} {pos : Pos} (he : PE X e ta) (hb : attributeBase e f X.env (eval e X.env) = eval e X.env) (h : X.K = K := by rfl) : PE X (.Attribute e f pos) (tFld K ta f) := by subst h; exact pe_fld he hb
theorem inV_vS (x : Str) (l : List Str) : inV (.str x) (l.map V.str) = decide (x ∈ l) := by
  induction l with
  | nil => simp [inV]
  | cons y r ih =>
    unfold inV at ih ⊢
    rw [List.map_cons, List.any_cons, ih]
    by_cases h : y = x
    · subst h; simp [eqV]
    · have h' : ¬ x = y := fun e => h e.symm
      simp [eqV, h, h']
theorem flat_vS (l : List Str) : (l.map V.str).all flatV = true := by
  induction l with
  | nil => rfl
  | cons y r ih => rw [List.map_cons, List.all_cons, ih]; rfl

/-- what the top has written -/
structure TX (K : PySem.W.Frag) (mg : Str → Option Value) (CP CC CT : Addr) : Prop where
  nb : ∀ x ∈ (["isinstance", "str", "len", "all", "any", "set", "list", "tuple", "sorted", "enumerate", "int", "abs", "range"] : List Str), mg x = none
  g_LETTERS : ∃ u, mg "LETTERS" = some u ∧ RelV (.str LET) u
  g_LONGEST_NAME : ∃ u, mg "LONGEST_NAME" = some u ∧ RelV (.int 8) u
  g_MOST_HOSTS : ∃ u, mg "MOST_HOSTS" = some u ∧ RelV (.int 40) u
  g_PAIR_partings : ∃ u, mg "PAIR_partings" = some u ∧ RelV (.int 2) u
  g_FOUR_partings : ∃ u, mg "FOUR_partings" = some u ∧ RelV (.int 4) u
  g_LEAST_SIDE : ∃ u, mg "LEAST_SIDE" = some u ∧ RelV (.int 2) u
  g_PAIR_trees : ∃ u, mg "PAIR_trees" = some u ∧ RelV (.int 2) u
  g_FOUR_trees : ∃ u, mg "FOUR_trees" = some u ∧ RelV (.int 4) u
  c_Parting : mg "Parting" = some (.ref CP)
  c_Cut : mg "Cut" = some (.ref CC)
  c_Tree : mg "Tree" = some (.ref CT)
  iP : C8.InsC K CP
  iC : C8.InsC K CC
  iT : C8.InsC K CT
  nP : ∀ f ∈ (["both_pairs", "all_four"] : List Str), NoAttr K CP f
  nC : ∀ f ∈ (["near_side", "far_side", "all_names"] : List Str), NoAttr K CC f
  nT : ∀ f ∈ (["all_names", "own_cuts"] : List Str), NoAttr K CT f
  fP : PySem.W.notFirst K CP (.ref CP) = true
  fC : PySem.W.notFirst K CC (.ref CC) = true
  fT : PySem.W.notFirst K CT (.ref CT) = true
  fPN : PySem.W.notFirst K CP (.type "NoneType") = true
  sPN : PySem.W.subIn K (.ref CP) (.type "NoneType") = some false
  kPN : PySem.W.kitOne K (.type "NoneType") (.ref CP) = some false
  sfT : PySem.W.selfFirst K CT = true
  d_is_name : Dfn K mg "is_name" "is_name" (top 19)
  d_are_names : Dfn K mg "are_names" "are_names" (top 20)
  d_ascending_names : Dfn K mg "ascending_names" "ascending" (top 21)
  d_hosts_of : DfnB K mg "hosts_of" "hosts_of" (top 23) ["values", "most"] [.int 40]
  d_answers_of : Dfn K mg "answers_of" "answers_of" (top 30)
  d_is_side : Dfn K mg "is_side" "is_side" (top 34)
  d_ascending_cuts : Dfn K mg "ascending_cuts" "ascending" (top 35)
  d_in_order : Dfn K mg "in_order" "in_order" (top 38)
  d_first_crossing : Dfn K mg "first_crossing" "first_crossing" (top 39)
  d_need_cuts : Dfn K mg "need_cuts" "need_cuts" (top 48)
  d_need_same : Dfn K mg "need_same" "need_same" (top 49)
  d_pen : Dfn K mg "_law_pen" "_law_pen" (top 52)
  d_draw : Dfn K mg "_law_draw" "_law_draw" (top 53)
  d_mixed : Dfn K mg "_law_mixed" "_law_mixed" (top 55)
  d_hosts : Dfn K mg "_law_hosts" "_law_hosts" (top 56)
  d_fars : Dfn K mg "_law_fars" "_law_fars" (top 57)
  d_near : Dfn K mg "_law_near" "_law_near" (top 58)
  d_cut : Dfn K mg "_law_cut" "_law_cut" (top 59)
  d_tree : Dfn K mg "_law_tree" "_law_tree" (top 60)
  d_all_cuts : Dfn K mg "_law_all_cuts" "_law_all_cuts" (top 62)
  d_made : Dfn K mg "_law_made" "_law_made" (top 63)
  k_Parting : Mkd K CP "Parting.__init__" (inClass (top 29) 0)
  p_four : Ppd K CP "four" "Parting.four" (inClass (top 29) 2)
  p_pairs : Ppd K CP "pairs" "Parting.pairs" (inClass (top 29) 3)
  m_place : Mtd K CP "parting_place" "Parting.parting_place" (inClass (top 29) 5)
  m_ltP : Mtd K CP "__lt__" "Parting.__lt__" (inClass (top 29) 6)
  m_eqP : Mtd K CP "__eq__" "Parting.__eq__" (inClass (top 29) 10)
  m_strP : Mtd K CP "__str__" "Parting.__str__" (inClass (top 29) 11)
  k_Cut : Mkd K CC "Cut.__init__" (inClass (top 37) 0)
  p_near : Ppd K CC "near" "Cut.near" (inClass (top 37) 2)
  p_far : Ppd K CC "far" "Cut.far" (inClass (top 37) 3)
  p_hostsC : Ppd K CC "hosts" "Cut.hosts" (inClass (top 37) 4)
  m_makes : Mtd K CC "makes" "Cut.makes" (inClass (top 37) 5)
  m_crosses : Mtd K CC "crosses" "Cut.crosses" (inClass (top 37) 6)
  m_onlyC : Mtd K CC "only" "Cut.only" (inClass (top 37) 7)
  m_eqC : Mtd K CC "__eq__" "Cut.__eq__" (inClass (top 37) 12)
  k_Tree : MkdB K CT "Tree.__init__" (inClass (top 50) 1) ["self", "hosts", "cuts"]
  p_hostsT : Ppd K CT "hosts" "Tree.hosts" (inClass (top 50) 4)
  p_cuts : Ppd K CT "cuts" "Tree.cuts" (inClass (top 50) 5)
  m_need_host : Mtd K CT "need_host" "Tree.need_host" (inClass (top 50) 7)
  m_onlyT : Mtd K CT "only" "Tree.only" (inClass (top 50) 10)
  m_callT : Mtd K CT "__call__" "Tree.__call__" (inClass (top 50) 12)
  m_hasT : Mtd K CT "__contains__" "Tree.__contains__" (inClass (top 50) 14)
  m_andT : Mtd K CT "__and__" "Tree.__and__" (inClass (top 50) 15)
  m_leT : Mtd K CT "__le__" "Tree.__le__" (inClass (top 50) 18)
  m_geT : Mtd K CT "__ge__" "Tree.__ge__" (inClass (top 50) 20)
  m_eqT : Mtd K CT "__eq__" "Tree.__eq__" (inClass (top 50) 22)
end G
end

section
set_option Elab.async false
set_option linter.all false
set_option maxRecDepth 100000
set_option maxHeartbeats 1000000
/-! names -/
namespace G
open PySem PySem.Spec PyProof.Rows L2
open C8 (fnScope fnBody fnArgs Cal Met Mak)
open SkE (call_str_str)
abbrev vS (l : List Str) : List V := l.map V.str
section
variable {P : Program} {w : World} {K : PySem.W.Frag} {mg : Str → Option Value} {base : Heap} {CP CC CT : Addr}
theorem extFree {H H' : Hp} {p : Addr} (e : Ext H H') (h : H' p = none) : H p = none := by
  cases z : H p with
  | none => rfl
  | some o => have := e _ _ z; rw [h] at this; cases this
def spIsName : Sp := fun vs H Q _ => ∃ s, vs = [.str s] ∧ GoodName s ∧ ∀ H', Ext H H' → Q (.bl true) H'
theorem sc_is_name : FnScope ["value", "sign"] ["value"] (fnScope (top 19)) := ⟨rfl, rfl, rfl, by decide +kernel, rfl, by decide +kernel, by decide +kernel⟩
theorem cal_is_name (T : TX K mg CP CC CT) : Cal P w K mg base 1 "is_name" spIsName [] := by
  refine cal_of T.d_is_name sc_is_name (fun _ _ _ _ _ _ us hl => match us, hl with | [_], _ => rfl) (fun vs H Q E h => by obtain ⟨s, rfl, _⟩ := h; rfl) fun f cdv A outer s H vs Q E hr h => ?_
  refine ⟨_, (pss_cons (ps_if (PW.pt (pw_or (pt_not (pt_val (pe_callB call_isi (by rfl) (T.nb "isinstance" (by decide)) (by decide +kernel) (pa_cons (pv 0) (pa_cons (pe_bltn (v := .ty "str") (u := .type "str") (by rfl) (T.nb "str" (by decide)) (by decide +kernel) rfl) pa_nil))))) (pw_or1 (pt_not (pt_chain op_le op_le pe_int (pe_callB call_len (by rfl) (T.nb "len" (by decide)) (by decide +kernel) (pa_cons (pv 0) pa_nil)) (C8.pe_gc rfl T.g_LONGEST_NAME)))))) (pss_one (ps_ret pe_bl)) pss_nil)
      (pss_one (ps_ret (pe_callB (cr_all rfl) (by rfl) (T.nb "all" (by decide)) (by decide +kernel) (pa_cons (pe_lc (own := [("sign", 1)]) (tt := tYes) rfl sc_is_name.nd (pi_str (pv 0)) (blkOk_by (N := ["value", "sign"]) (sc := fnScope (top 19)) (own := [("sign", 1)]) (by decide +kernel)) (fun _ _ _ _ _ => (pg_name (i := 1) sc_is_name.nd rfl (Or.inl rfl))) (fun _ _ _ _ _ => pts_nil) (fun _ _ _ _ _ => (pe_cmpR op_in_sign (pv 1) (C8.pe_gc rfl T.g_LETTERS) mk))) pa_nil))))), ?_⟩
  obtain ⟨x, rfl, ⟨h1, h2, h3⟩, q⟩ := h
  refine ⟨_, rfl, _, _, _, _, true, rfl, .ty _, .base (.str _), kit_ty (by decide +kernel), ?_⟩
  refine ⟨true, rfl, iteF ?_⟩
  refine ⟨_, rfl, _, _, rfl, ⟨Nat.le_trans h2 (by decide), rfl⟩, _, _, rfl, rfl, true, congrArg V.bl (decide_eq_true (by omega)), iteT ?_⟩
  refine ⟨_, _, rfl, rfl, true, congrArg V.bl (decide_eq_true (by omega)), iteF ?_⟩
  dsimp only [tNext, tRet, tCB, tCons, tNil, tC, tSeq, tIfS, tTest, tNot, tOr, tAnd, tB, tAndV, tOrV, tNotV, tIf, tDrop, tOp, tChain, rI0, tTup, tLst, tCall, tMeth, tMake, tProp, tFld, sFld, tAsg, gName, tYes, List.map, tNever, tPar, cxK, cxw, cxnK, cxnw, List.singleton_append, List.append_nil, List.cons_append, List.nil_append]
  refine tlc_of ?_
  refine ⟨_, rfl, x, rfl, ?_⟩
  refine lc_map over_str (fun _ => .bl true) (fun _ _ => trivial) (by simp [signs]; exact Nat.le_trans h2 (by decide)) (fun v H1 M hv e hM => ?_) fun D H' hD e hl => ?_
  · obtain ⟨c, hc, rfl⟩ := List.mem_map.mp hv
    exact ⟨_, rfl, c, LET, rfl, rfl, by rw [decide_eq_true (h3 c hc)]; exact hM H1 Ext.rfl'⟩
  · refine ⟨D, (signs x).map (fun _ => true), rfl, SqL.of (by rw [hl, List.map_map]; rfl), ?_⟩
    rw [show ((signs x).map fun _ => true).all id = true from by simp]
    exact q H' e
/-- a list's or a tuple's type -/
theorem sq_ty {H : Hp} {a : Addr} {xs : List V} (h : Sq K H a xs) : TyX K H (.ref a) (.type "list") ∨ TyX K H (.ref a) (.type "tuple") := by
  rcases h with (h | h) | (h | h)
  · rcases h with h | ⟨o, h⟩
    · exact .inl (.base (.lst h))
    · exact .inl (.base (.frz h))
  · obtain ⟨o, its, n, h, c, _⟩ := h
    exact .inl (.kList h c)
  · rcases h with h | ⟨o, h⟩
    · exact .inr (.base (.tup h))
    · exact .inr (.fTuple h)
  · obtain ⟨o, its, n, h, c, _⟩ := h
    exact .inr (.kTuple h c)
theorem any_lt {t : Value} (h : t = .type "list" ∨ t = .type "tuple") : PySem.W.kitAny K t [.type "list", .type "tuple"] = some true := by
  rcases h with rfl | rfl
  · exact kitAny_cons (b := true) (kit_ty (by decide +kernel)) (fun z => by cases z) fun _ => rfl
  · exact kitAny_cons (b := false) (kit_ty (by decide +kernel)) (fun _ => kitAny_cons (b := true) (kit_ty (by decide +kernel)) (fun z => by cases z) fun _ => rfl) fun z => by cases z
theorem Sq.len {H : Hp} {a : Addr} {xs : List V} (h : Sq K H a xs) : LenV K (.ref a) H xs.length := h.elim (fun h => .inl ⟨xs, h, rfl⟩) fun h => .inr ⟨xs, h, rfl⟩
/-- isinstance(x, (list, tuple)) of a sequence: as the reading asks -/
theorem isi_sq {H : Hp} {a : Addr} {xs : List V} {Q : VK} (h : Sq K H a xs) {p : Addr} (hp : H p = none) (q : ∀ H', Ext H H' → Q (.bl true) H') : rIsiT K [.ref a, .ref p] (upd H p (.tup [.ty "list", .ty "tuple"])) Q := by
  have e : Ext H (upd H p (.tup [.ty "list", .ty "tuple"])) := Ext.upd hp
  rcases sq_ty (h.ext e) with k | k
  · exact ⟨_, p, _, _, [.type "list", .type "tuple"], true, rfl, upd_same, .cons (.ty _) (.cons (.ty _) .nil), k, any_lt (.inl rfl), q _ e⟩
  · exact ⟨_, p, _, _, [.type "list", .type "tuple"], true, rfl, upd_same, .cons (.ty _) (.cons (.ty _) .nil), k, any_lt (.inr rfl), q _ e⟩
theorem dt {p : Prop} [Decidable p] (h : p) : V.bl (decide p) = V.bl true := congrArg V.bl (decide_eq_true h)
theorem df {p : Prop} [Decidable p] (h : ¬ p) : V.bl (decide p) = V.bl false := congrArg V.bl (decide_eq_false h)
def spAreNames (K : PySem.W.Frag) : Sp := fun vs H Q _ => ∃ a l, vs = [.ref a, .int (l.length : Nat)] ∧ Sq K H a (vS l) ∧ (∀ s ∈ l, GoodName s) ∧ l.Nodup ∧ l.length ≤ 40 ∧ ∀ H', Ext H H' → Q (.bl true) H'
theorem sc_are_names : FnScope ["values", "many", "value"] ["values", "many"] (fnScope (top 20)) := ⟨rfl, rfl, rfl, by decide +kernel, rfl, by decide +kernel, by decide +kernel⟩
theorem cal_are_names (T : TX K mg CP CC CT) : Cal P w K mg base 2 "are_names" (spAreNames K) [] := by
  refine cal_of T.d_are_names sc_are_names (fun _ _ _ _ _ _ us hl => match us, hl with | [_, _], _ => rfl) (fun vs H Q E h => by obtain ⟨s, l, rfl, _⟩ := h; rfl) fun f cdv A outer s H vs Q E hr h => ?_
  refine ⟨_, (pss_cons (ps_if (PW.pt (pw_or (pt_not (pt_val (pe_callB call_isiT (by rfl) (T.nb "isinstance" (by decide)) (by decide +kernel) (pa_cons (pv 0) (pa_cons (pe_tup (pa_cons (pe_bltn (v := .ty "list") (u := .type "list") (by rfl) (T.nb "list" (by decide)) (by decide +kernel) rfl) (pa_cons (pe_bltn (v := .ty "tuple") (u := .type "tuple") (by rfl) (T.nb "tuple" (by decide)) (by decide +kernel) rfl) pa_nil))) pa_nil))))) (pw_or1 (pt_cmpR op_ne (pe_callB call_len (by rfl) (T.nb "len" (by decide)) (by decide +kernel) (pa_cons (pv 0) pa_nil)) (pv 1) mk)))) (pss_one (ps_ret pe_bl)) pss_nil)
      (pss_one (ps_ret (pe_and (pe_callB (cr_all rfl) (by rfl) (T.nb "all" (by decide)) (by decide +kernel) (pa_cons (pe_lc (own := [("value", 2)]) (tt := tYes) rfl sc_are_names.nd (pi_seq (pv 0)) (blkOk_by (N := ["values", "many", "value"]) (sc := fnScope (top 20)) (own := [("value", 2)]) (by decide +kernel)) (fun _ _ _ _ _ => (pg_name (i := 2) sc_are_names.nd rfl (Or.inl rfl))) (fun _ _ _ _ _ => pts_nil) (fun _ _ _ _ _ => (C8.pe_c (cal_is_name T) hr (by decide) rfl (pa_cons (pv 2) pa_nil)))) pa_nil)) (pe_one (pe_cmpR op_eq (pe_callB cr_lenS (by rfl) (T.nb "len" (by decide)) (by decide +kernel) (pa_cons (pe_callTy (cr_setS rfl) (by rfl) (T.nb "set" (by decide)) (by decide +kernel) (pa_cons (pv 0) pa_nil)) pa_nil)) (pv 1) mk)))))), ?_⟩
  obtain ⟨a, l, rfl, hs, hg, hn, h40, q⟩ := h
  refine ⟨_, rfl, ?_⟩
  dsimp only [tNext, tRet, tCB, tCons, tNil, tC, tSeq, tIfS, tTest, tNot, tOr, tAnd, tB, tAndV, tOrV, tNotV, tIf, tDrop, tOp, tChain, rI0, tTup, tLst, tCall, tMeth, tMake, tProp, tFld, sFld, tAsg, gName, tYes, List.map, tNever, tPar, cxK, cxw, cxnK, cxnw, List.singleton_append, List.append_nil, List.cons_append, List.nil_append]
  refine ⟨by decide, fun p hp => ?_⟩
  refine isi_sq hs hp fun H1 e1 => ⟨true, rfl, iteF ?_⟩
  refine ⟨_, rfl, _, _, rfl, (hs.ext e1).len, _, rfl, ?_⟩
  have el : (vS l).length = l.length := List.length_map ..
  rw [el]
  refine ⟨rfl, _, rfl, ?_⟩
  simp only [decide_true, Bool.not_true, decide_false]
  refine iteF ?_
  refine tlc_of ?_
  refine ⟨_, rfl, iseq_of (hs.ext e1) fun J st ov hst => ?_⟩
  refine lc_map ov (fun _ => .bl true) hst (by rw [el]; exact Nat.le_trans h40 (by decide)) (fun v H2 M hv e hM => ?_) fun D H2 hD e hl => ?_
  · obtain ⟨x, hx, rfl⟩ := List.mem_map.mp hv
    exact ⟨_, rfl, x, rfl, hg x hx, hM⟩
  refine ⟨D, l.map (fun _ => true), rfl, SqL.of (by rw [hl]; simp), ?_⟩
  rw [show (l.map fun _ => true).all id = true from by simp]
  refine ⟨true, rfl, iteT ?_⟩
  refine ⟨_, rfl, a, l, rfl, hs.ext (e1.trans e), Nat.lt_of_le_of_lt (Nat.add_le_add_right h40 1) (by decide), fun p2 hp2 => ?_⟩
  refine ⟨p2, l, rfl, upd_same, fun us hus hm => ?_⟩
  have hlen : us.length = l.length := (List.Perm.length_eq ((List.perm_ext_iff_of_nodup hus hn).mpr hm))
  refine ⟨_, rfl, rfl, ?_⟩
  rw [hlen, decide_eq_true rfl]
  exact q _ ((e1.trans e).trans (Ext.upd hp2))
/-- a new tuple of the texts, ascending -/
def spAsc (K : PySem.W.Frag) : Sp := fun vs H Q _ => ∃ a l, vs = [.ref a] ∧ Sq K H a (vS l) ∧ l.length ≤ 40 ∧ ∀ us p H', Asc us → (∀ k, k ∈ us ↔ k ∈ l) → Ext H H' → H p = none → H' p = some (.tup (vS us)) → Q (.ref p) H'
theorem sc_ascending : FnScope ["names", "name"] ["names"] (fnScope (top 21)) := ⟨rfl, rfl, rfl, by decide +kernel, rfl, by decide +kernel, by decide +kernel⟩
theorem cal_ascending_names (T : TX K mg CP CC CT) : Cal P w K mg base 1 "ascending_names" (spAsc K) [] := by
  refine cal_of T.d_ascending_names sc_ascending (fun _ _ _ _ _ _ us hl => match us, hl with | [_], _ => rfl) (fun vs H Q E h => by obtain ⟨s, l, rfl, _⟩ := h; rfl) fun f cdv A outer s H vs Q E hr h => ?_
  refine ⟨_, (pss_one (ps_ret (pe_callTy call_tuple_of (by rfl) (T.nb "tuple" (by decide)) (by decide +kernel) (pa_cons (pe_callB (cr_sortedSetS rfl) (by rfl) (T.nb "sorted" (by decide)) (by decide +kernel) (pa_cons (pe_callTy (cr_setS rfl) (by rfl) (T.nb "set" (by decide)) (by decide +kernel) (pa_cons (pe_lc (own := [("name", 1)]) (tt := tYes) rfl sc_ascending.nd (pi_seq (pv 0)) (blkOk_by (N := ["names", "name"]) (sc := fnScope (top 21)) (own := [("name", 1)]) (by decide +kernel)) (fun _ _ _ _ _ => (pg_name (i := 1) sc_ascending.nd rfl (Or.inl rfl))) (fun _ _ _ _ _ => pts_nil) (fun _ _ _ _ _ => (pe_callTy call_str_str (by rfl) (T.nb "str" (by decide)) (by decide +kernel) (pa_cons (pv 1) pa_nil)))) pa_nil)) pa_nil)) pa_nil)))), ?_⟩
  obtain ⟨a, l, rfl, hs, h40, q⟩ := h
  dsimp only [tNext, tRet, tCB, tCons, tNil, tC, tSeq, tIfS, tTest, tNot, tOr, tAnd, tB, tAndV, tOrV, tNotV, tIf, tDrop, tOp, tChain, rI0, tTup, tLst, tCall, tMeth, tMake, tProp, tFld, sFld, tAsg, gName, tYes, List.map, tNever, tPar, cxK, cxw, cxnK, cxnw, List.singleton_append, List.append_nil, List.cons_append, List.nil_append]
  refine tlc_of ?_
  have el : (vS l).length = l.length := List.length_map ..
  refine ⟨_, rfl, iseq_of hs fun J st ov hst => ?_⟩
  refine lc_map ov id hst (by rw [el]; exact Nat.le_trans h40 (by decide)) (fun v H2 M hv e hM => ?_) fun D H2 hD e hl => ?_
  · obtain ⟨x, hx, rfl⟩ := List.mem_map.mp hv
    exact ⟨_, rfl, x, rfl, hM _ Ext.rfl'⟩
  refine ⟨D, l, rfl, .inl (SqL.of (by rw [hl]; simp)), Nat.lt_of_le_of_lt (Nat.add_le_add_right h40 1) (by decide), fun p2 hp2 => ?_⟩
  refine ⟨p2, l, rfl, upd_same, Nat.lt_of_le_of_lt h40 (by decide), fun us p3 hn hso hm hp3 => ?_⟩
  refine ⟨p3, vS us, rfl, .inl ⟨SqL.of upd_same, fun p4 hp4 => ?_⟩⟩
  have e4 := ((e.trans (Ext.upd hp2)).trans (Ext.upd hp3)).trans (Ext.upd (o := .tup (vS us)) hp4)
  exact q us p4 _ (asc_of hso hn) hm e4 (extFree ((e.trans (Ext.upd hp2)).trans (Ext.upd hp3)) hp4) upd_same
def spAscC (K : PySem.W.Frag) : Sp := fun vs H Q _ => ∃ a l, vs = [.ref a] ∧ Sq K H a (vS l) ∧ l.length ≤ 40 ∧ l.Nodup ∧ ∀ us p H', Asc us → us.Perm l → Ext H H' → H p = none → H' p = some (.tup (vS us)) → Q (.ref p) H'
theorem sc_ascending1 : FnScope ["names", "name"] ["names"] (fnScope (top 35)) := ⟨rfl, rfl, rfl, by decide +kernel, rfl, by decide +kernel, by decide +kernel⟩
theorem cal_ascending_cuts (T : TX K mg CP CC CT) : Cal P w K mg base 1 "ascending_cuts" (spAscC K) [] := by
  refine cal_of T.d_ascending_cuts sc_ascending1 (fun _ _ _ _ _ _ us hl => match us, hl with | [_], _ => rfl) (fun vs H Q E h => by obtain ⟨s, l, rfl, _⟩ := h; rfl) fun f cdv A outer s H vs Q E hr h => ?_
  refine ⟨_, (pss_one (ps_ret (pe_callTy call_tuple_of (by rfl) (T.nb "tuple" (by decide)) (by decide +kernel) (pa_cons (pe_callB cr_sortedS (by rfl) (T.nb "sorted" (by decide)) (by decide +kernel) (pa_cons (pe_lc (own := [("name", 1)]) (tt := tYes) rfl sc_ascending1.nd (pi_seq (pv 0)) (blkOk_by (N := ["names", "name"]) (sc := fnScope (top 35)) (own := [("name", 1)]) (by decide +kernel)) (fun _ _ _ _ _ => (pg_name (i := 1) sc_ascending1.nd rfl (Or.inl rfl))) (fun _ _ _ _ _ => pts_nil) (fun _ _ _ _ _ => (pe_callTy call_str_str (by rfl) (T.nb "str" (by decide)) (by decide +kernel) (pa_cons (pv 1) pa_nil)))) pa_nil)) pa_nil)))), ?_⟩
  obtain ⟨a, l, rfl, hs, h40, hn, q⟩ := h
  dsimp only [tNext, tRet, tCB, tCons, tNil, tC, tSeq, tIfS, tTest, tNot, tOr, tAnd, tB, tAndV, tOrV, tNotV, tIf, tDrop, tOp, tChain, rI0, tTup, tLst, tCall, tMeth, tMake, tProp, tFld, sFld, tAsg, gName, tYes, List.map, tNever, tPar, cxK, cxw, cxnK, cxnw, List.singleton_append, List.append_nil, List.cons_append, List.nil_append]
  refine tlc_of ?_
  have el : (vS l).length = l.length := List.length_map ..
  refine ⟨_, rfl, iseq_of hs fun J st ov hst => ?_⟩
  refine lc_map ov id hst (by rw [el]; exact Nat.le_trans h40 (by decide)) (fun v H2 M hv e hM => ?_) fun D H2 hD e hl => ?_
  · obtain ⟨x, hx, rfl⟩ := List.mem_map.mp hv
    exact ⟨_, rfl, x, rfl, hM _ Ext.rfl'⟩
  refine ⟨D, l, rfl, SqL.of (by rw [hl]; simp), Nat.lt_of_le_of_lt h40 (by decide), fun us p3 hp hso hp3 => ?_⟩
  refine ⟨p3, vS us, rfl, .inl ⟨SqL.of upd_same, fun p4 hp4 => ?_⟩⟩
  have e4 := (e.trans (Ext.upd hp3)).trans (Ext.upd (o := .tup (vS us)) hp4)
  exact q us p4 _ (asc_of hso (hp.nodup_iff.mpr hn)) hp e4 (extFree (e.trans (Ext.upd hp3)) hp4) upd_same
def spIsSide (K : PySem.W.Frag) : Sp := fun vs H Q _ => ∃ a l, vs = [.ref a] ∧ Sq K H a (vS l) ∧ (∀ s ∈ l, GoodName s) ∧ l.Nodup ∧ 2 ≤ l.length ∧ l.length ≤ 40 ∧ ∀ H', Ext H H' → Q (.bl true) H'
theorem sc_is_side : FnScope ["value", "one"] ["value"] (fnScope (top 34)) := ⟨rfl, rfl, rfl, by decide +kernel, rfl, by decide +kernel, by decide +kernel⟩
theorem cal_is_side (T : TX K mg CP CC CT) : Cal P w K mg base 2 "is_side" (spIsSide K) [] := by
  refine cal_of T.d_is_side sc_is_side (fun _ _ _ _ _ _ us hl => match us, hl with | [_], _ => rfl) (fun vs H Q E h => by obtain ⟨s, l, rfl, _⟩ := h; rfl) fun f cdv A outer s H vs Q E hr h => ?_
  refine ⟨_, (pss_cons (ps_if (PW.pt (pw_or (pt_not (pt_val (pe_callB call_isiT (by rfl) (T.nb "isinstance" (by decide)) (by decide +kernel) (pa_cons (pv 0) (pa_cons (pe_tup (pa_cons (pe_bltn (v := .ty "list") (u := .type "list") (by rfl) (T.nb "list" (by decide)) (by decide +kernel) rfl) (pa_cons (pe_bltn (v := .ty "tuple") (u := .type "tuple") (by rfl) (T.nb "tuple" (by decide)) (by decide +kernel) rfl) pa_nil))) pa_nil))))) (pw_or1 (pt_cmpR op_lt (pe_callB call_len (by rfl) (T.nb "len" (by decide)) (by decide +kernel) (pa_cons (pv 0) pa_nil)) (C8.pe_gc rfl T.g_LEAST_SIDE) mk)))) (pss_one (ps_ret pe_bl)) pss_nil)
      (pss_cons (ps_if (pt_not (pt_val (pe_callB (cr_all rfl) (by rfl) (T.nb "all" (by decide)) (by decide +kernel) (pa_cons (pe_lc (own := [("one", 1)]) (tt := tYes) rfl sc_is_side.nd (pi_seq (pv 0)) (blkOk_by (N := ["value", "one"]) (sc := fnScope (top 34)) (own := [("one", 1)]) (by decide +kernel)) (fun _ _ _ _ _ => (pg_name (i := 1) sc_is_side.nd rfl (Or.inl rfl))) (fun _ _ _ _ _ => pts_nil) (fun _ _ _ _ _ => (C8.pe_c (cal_is_name T) hr (by decide) rfl (pa_cons (pv 1) pa_nil)))) pa_nil)))) (pss_one (ps_ret pe_bl)) pss_nil)
      (pss_one (ps_ret (pe_cmpR op_eq (pe_callB cr_lenS (by rfl) (T.nb "len" (by decide)) (by decide +kernel) (pa_cons (pe_callTy (cr_setS rfl) (by rfl) (T.nb "set" (by decide)) (by decide +kernel) (pa_cons (pe_lc (own := [("one", 1)]) (tt := tYes) rfl sc_is_side.nd (pi_seq (pv 0)) (blkOk_by (N := ["value", "one"]) (sc := fnScope (top 34)) (own := [("one", 1)]) (by decide +kernel)) (fun _ _ _ _ _ => (pg_name (i := 1) sc_is_side.nd rfl (Or.inl rfl))) (fun _ _ _ _ _ => pts_nil) (fun _ _ _ _ _ => (pe_callTy call_str_str (by rfl) (T.nb "str" (by decide)) (by decide +kernel) (pa_cons (pv 1) pa_nil)))) pa_nil)) pa_nil)) (pe_callB call_len (by rfl) (T.nb "len" (by decide)) (by decide +kernel) (pa_cons (pv 0) pa_nil)) mk))))), ?_⟩
  obtain ⟨a, l, rfl, hs, hg, hn, h2, h40, q⟩ := h
  have el : (vS l).length = l.length := List.length_map ..
  have hz : (vS l).length ≤ sizeLine := by rw [el]; exact Nat.le_trans h40 (by decide)
  refine ⟨_, rfl, ?_⟩
  dsimp only [tNext, tRet, tCB, tCons, tNil, tC, tSeq, tIfS, tTest, tNot, tOr, tAnd, tB, tAndV, tOrV, tNotV, tIf, tDrop, tOp, tChain, rI0, tTup, tLst, tCall, tMeth, tMake, tProp, tFld, sFld, tAsg, gName, tYes, List.map, tNever, tPar, cxK, cxw, cxnK, cxnw, List.singleton_append, List.append_nil, List.cons_append, List.nil_append]
  refine ⟨by decide, fun p hp => ?_⟩
  refine isi_sq hs hp fun H1 e1 => ⟨true, rfl, iteF ?_⟩
  refine ⟨_, rfl, _, _, rfl, (hs.ext e1).len, _, _, rfl, rfl, false, df (by rw [el]; omega), iteF ?_⟩
  refine tlc_of ?_
  refine ⟨_, rfl, iseq_of (hs.ext e1) fun J st ov hst => ?_⟩
  refine lc_map ov (fun _ => .bl true) hst hz (fun v H2 M hv e hM => ?_) fun D H2 hD e hl => ?_
  · obtain ⟨x, hx, rfl⟩ := List.mem_map.mp hv
    exact ⟨_, rfl, x, rfl, hg x hx, hM⟩
  refine ⟨D, l.map (fun _ => true), rfl, SqL.of (by rw [hl]; simp), ?_⟩
  rw [show (l.map fun _ => true).all id = true from by simp]
  refine ⟨true, rfl, iteF ?_⟩
  refine tlc_of ?_
  have e2 := e1.trans e
  refine ⟨_, rfl, iseq_of (hs.ext e2) fun J st ov hst => ?_⟩
  refine lc_map ov id hst hz (fun v H2 M hv e hM => ?_) fun D H3 hD e3 hl => ?_
  · obtain ⟨x, hx, rfl⟩ := List.mem_map.mp hv
    exact ⟨_, rfl, x, rfl, hM _ Ext.rfl'⟩
  refine ⟨D, l, rfl, .inl (SqL.of (by rw [hl]; simp)), Nat.lt_of_le_of_lt (Nat.add_le_add_right h40 1) (by decide), fun p2 hp2 => ?_⟩
  refine ⟨p2, l, rfl, upd_same, fun us hus hm => ?_⟩
  have hlen : us.length = l.length := (List.Perm.length_eq ((List.perm_ext_iff_of_nodup hus hn).mpr hm))
  refine ⟨_, rfl, _, _, rfl, (hs.ext ((e2.trans e3).trans (Ext.upd hp2))).len, rfl, ?_⟩
  rw [hlen, el, decide_eq_true rfl]
  exact q _ ((e2.trans e3).trans (Ext.upd hp2))
end
end G
end

section
set_option Elab.async false
set_option linter.all false
set_option maxRecDepth 100000
set_option maxHeartbeats 1000000
/-! partings -/
namespace G
open PySem PySem.Spec PyProof.Rows L2
open C8 (fnScope fnBody fnArgs Cal Met Mak)
open SkE (call_str_str)
open StX (pa_star tStar)
open PySem.W (Tup)
/-- a parting of four: the pair with the least host, the other one -/
abbrev Pt := KM.Pt Str
structure Pt.Ok (p : Pt) : Prop where
  hp : sl p.p1 p.p2
  hq : sl p.q1 p.q2
  h : sl p.p1 p.q1
  g : ∀ s ∈ p.four, GoodName s
/-- a parting of these two pairs -/
structure Pt.Of (p : Pt) (one other : List Str) : Prop where
  ok : p.Ok
  pairs : ([p.p1, p.p2].Perm one ∧ [p.q1, p.q2].Perm other) ∨ ([p.p1, p.p2].Perm other ∧ [p.q1, p.q2].Perm one)
def TupS (H : Hp) (p : Addr) (l : List Str) : Prop := H p = some (.tup (vS l))
theorem TupS.sq {K : PySem.W.Frag} {H : Hp} {p : Addr} {l : List Str} (h : TupS H p l) : Sq K H p (vS l) := .tup h
theorem TupS.t {K : PySem.W.Frag} {H : Hp} {p : Addr} {l : List Str} (h : TupS H p l) : SqT K H p (vS l) := .of h
/-- a parting's object -/
def PartAt (C : Addr) (H : Hp) (a : Addr) (p : Pt) : Prop := ∃ dx b p1 p2 f f4, H a = some (.ins C dx [("both_pairs", .ref b), ("all_four", .ref f)]) ∧ H b = some (.tup [.ref p1, .ref p2]) ∧ TupS H p1 [p.p1, p.p2] ∧ TupS H p2 [p.q1, p.q2] ∧ TupS H f f4 ∧ Asc f4 ∧ f4.Perm p.four ∧ p.Ok
theorem PartAt.ext {C : Addr} {H H' : Hp} {a : Addr} {p : Pt} (h : PartAt C H a p) (e : Ext H H') : PartAt C H' a p := by
  obtain ⟨dx, b, p1, p2, f, f4, h1, h2, h3, h4, h5, r⟩ := h
  exact ⟨dx, b, p1, p2, f, f4, e _ _ h1, e _ _ h2, e _ _ h3, e _ _ h4, e _ _ h5, r⟩
theorem ExtB.then {D : Addr} {H H1 H2 : Hp} (h : ExtB D H H1) (e : Ext H1 H2) : ExtB D H H2 := fun a o n q => e _ _ (h a o n q)
theorem ltd {k n : Nat} {A : Around} (hr : Room k A) (h : n ≤ 64) : A.units + n < cLine := Nat.lt_of_le_of_lt (Nat.add_le_add_left h _) hr.units
section
variable {P : Program} {w : World} {K : PySem.W.Frag} {mg : Str → Option Value} {base : Heap} {CP CC CT : Addr}
def spPartI (K : PySem.W.Frag) (CP : Addr) : Sp := fun vs H Q _ => ∃ a dx p q one other, vs = [.ref a, .ref p, .ref q] ∧ H a = some (.ins CP dx []) ∧ Sq K H p (vS one) ∧ Sq K H q (vS other) ∧ one.length = 2 ∧ other.length = 2 ∧ (∀ s ∈ one ++ other, GoodName s) ∧ (one ++ other).Nodup ∧
  ∀ H' x, ExtB a H H' → x.Of one other → PartAt CP H' a x → Q .non H'
theorem sc_Parting___init__ : FnScope ["self", "one", "other", "first", "second", "name"] ["self", "one", "other"] (fnScope (inClass (top 29) 0)) := ⟨rfl, rfl, rfl, by decide +kernel, rfl, by decide +kernel, by decide +kernel⟩
theorem mak_Parting (T : TX K mg CP CC CT) : Mak P w K mg base 3 "Parting" CP (spPartI K CP) [] := by
  refine mak_of T.c_Parting T.k_Parting sc_Parting___init__ (fun _ _ _ _ _ _ us hl => match us, hl with | [_, _, _], _ => rfl) (fun vs H Q E h => by obtain ⟨_, _, _, _, _, _, rfl, _⟩ := h; rfl) fun f cdv A outer s H vs Q E hr h => ?_
  refine ⟨_, (pss_cons (ps_if (pt_not (pt_val (C8.pe_c (cal_are_names T) hr (by decide) rfl (pa_cons (pv 1) (pa_cons (C8.pe_gc rfl T.g_PAIR_partings) pa_nil))))) pss_never pss_nil)
      (pss_cons (ps_if (PW.pt (pw_or (pt_not (pt_val (C8.pe_c (cal_are_names T) hr (by decide) rfl (pa_cons (pv 2) (pa_cons (C8.pe_gc rfl T.g_PAIR_partings) pa_nil))))) (pw_or1 (pt_val (pe_callB (cr_any rfl) (by rfl) (T.nb "any" (by decide)) (by decide +kernel) (pa_cons (pe_lc (own := [("name", 5)]) (tt := tYes) rfl sc_Parting___init__.nd (pi_seq (pv 2)) (blkOk_by (N := ["self", "one", "other", "first", "second", "name"]) (sc := fnScope (inClass (top 29) 0)) (own := [("name", 5)]) (by decide +kernel)) (fun _ _ _ _ _ => (pg_name (i := 5) sc_Parting___init__.nd rfl (Or.inl rfl))) (fun _ _ _ _ _ => pts_nil) (fun _ _ _ _ _ => (pe_cmpR (opIn K) (pv 5) (pv 1) mk))) pa_nil)))))) pss_never pss_nil)
      (pss_cons (ps_par (i := 3) (j := 4) (by rfl) sc_Parting___init__.nd rfl rfl (by decide) rfl rfl (pa_cons (C8.pe_c (cal_ascending_names T) hr (by decide) rfl (pa_cons (pv 1) pa_nil)) (pa_cons (C8.pe_c (cal_ascending_names T) hr (by decide) rfl (pa_cons (pv 2) pa_nil)) pa_nil)) (by rfl))
      (pss_cons (ps_fld (pv 0) (pe_ifExp (pt_cmpR (op_ltD (α := Tup Str) (ltd hr (by decide))) (pv 3) (pv 4) mk) (pe_tup (pa_cons (pv 3) (pa_cons (pv 4) pa_nil))) (pe_tup (pa_cons (pv 4) (pa_cons (pv 3) pa_nil)))) rfl)
      (pss_one (ps_fld (pv 0) (C8.pe_c (cal_ascending_names T) hr (by decide) rfl (pa_cons (pe_lst (pa_star (pv 3) (pa_star (pv 4) pa_nil))) pa_nil)) rfl)))))), ?_⟩
  obtain ⟨a, dx, p, q, one, other, rfl, ha, h1, h2, l1, l2, hg, hn, qq⟩ := h
  rw [List.nodup_append] at hn
  obtain ⟨n1, n2, n3⟩ := hn
  dsimp only [tNext, tRet, tCB, tCons, tNil, tC, tSeq, tIfS, tTest, tNot, tOr, tAnd, tB, tAndV, tOrV, tNotV, tIf, tDrop, tOp, tChain, rI0, tTup, tLst, tCall, tMeth, tMake, tProp, tFld, sFld, tAsg, gName, tYes, List.map, tNever, tPar, cxK, cxw, cxnK, cxnw, List.singleton_append, List.append_nil, List.cons_append, List.nil_append]
  refine ⟨_, rfl, p, one, by rw [l1]; rfl, h1, fun s hs => hg s (List.mem_append_left _ hs), n1, by omega, fun H1 e1 => ⟨true, rfl, iteF ?_⟩⟩
  refine ⟨_, rfl, q, other, by rw [l2]; rfl, h2.ext e1, fun s hs => hg s (List.mem_append_right _ hs), n2, by omega, fun H2 e2 => ⟨true, rfl, iteF ?_⟩⟩
  refine tlc_of ?_
  have el : (vS other).length = other.length := List.length_map ..
  have h1' := h1.ext (e1.trans e2)
  refine ⟨_, rfl, iseq_of (h2.ext (e1.trans e2)) fun J st ov hst => ?_⟩
  refine lc_map ov (fun _ => .bl false) hst (by rw [el, l2]; decide) (fun v H2 M hv e hM => ?_) fun D H3 hD e3 hl => ?_
  · obtain ⟨x, hx, rfl⟩ := List.mem_map.mp hv
    refine ⟨_, rfl, _, rfl, p, vS one, rfl, h1'.ext e, rfl, flat_vS _, ?_⟩
    rw [if_neg (by decide), inV_vS, decide_eq_false fun hxo => n3 x hxo x hx rfl]
    exact hM _ Ext.rfl'
  refine ⟨D, other.map (fun _ => false), rfl, SqL.of (by rw [hl]; simp), ?_⟩
  rw [show (other.map fun _ => false).any id = false from by simp]
  refine ⟨false, rfl, iteF ?_⟩
  have E3 := (e1.trans e2).trans e3
  refine ⟨_, rfl, p, one, rfl, h1.ext E3, by omega, fun us1 p1 H4 a1 m1 e4 f1 t1 => ?_⟩
  have E4 := E3.trans e4
  refine ⟨_, rfl, q, other, rfl, h2.ext E4, by omega, fun us2 p2 H5 a2 m2 e5 f2 t2 => ?_⟩
  have E5 := E4.trans e5
  have t1 := e5 _ _ t1
  have pm1 : us1.Perm one := (List.perm_ext_iff_of_nodup a1.nodup n1).mpr m1
  have pm2 : us2.Perm other := (List.perm_ext_iff_of_nodup a2.nodup n2).mpr m2
  obtain ⟨x1, x2, rfl⟩ : ∃ x1 x2, us1 = [x1, x2] := by
    have := pm1.length_eq
    rw [l1] at this
    match us1, this with
    | [x1, x2], _ => exact ⟨x1, x2, rfl⟩
  obtain ⟨y1, y2, rfl⟩ : ∃ x1 x2, us2 = [x1, x2] := by
    have := pm2.length_eq
    rw [l2] at this
    match us2, this with
    | [x1, x2], _ => exact ⟨x1, x2, rfl⟩
  have x12 : sl x1 x2 := by simpa [Asc] using a1
  have y12 : sl y1 y2 := by simpa [Asc] using a2
  have xne : x1 ≠ y1 := n3 x1 ((m1 x1).mp (by simp)) y1 ((m2 y1).mp (by simp))
  refine ⟨_, _, rfl, _, rfl, _, rfl, Tup.mk [x1, x2], Tup.mk [y1, y2], dp_tup (.of t1), dp_tup (.of t2), ?_⟩
  have hlt : PySem.W.DatumOrd.lt (Tup.mk [x1, x2]) (Tup.mk [y1, y2]) = decide (sl x1 y1) := by
    show PySem.W.listLt [x1, x2] [y1, y2] = _
    rw [PySem.W.listLt, if_neg xne]
    rfl
  rw [hlt]
  have fa : ∀ {H' : Hp} {b : Addr}, Ext H H' → H' b = none → b ≠ a := fun e hb z => by
    have := e _ _ ha
    rw [← z, hb] at this; cases this
  have p1a : p1 ≠ a := fa E3 f1
  have p2a : p2 ≠ a := fa E4 f2
  have g4 : ∀ s ∈ [x1, x2, y1, y2], GoodName s := fun s hs => hg s ((pm1.append pm2).mem_iff.mp hs)
  by_cases hs : sl x1 y1
  · refine ⟨_, dt hs, iteT ?_⟩
    refine ⟨_, rfl, _, rfl, (by show 2 ≤ sizeLine; decide), fun b hb => ?_⟩
    have Eb := E5.trans (Ext.upd (o := .tup [.ref p1, .ref p2]) hb)
    have nba : b ≠ a := fa E5 hb
    refine ⟨_, rfl, a, CP, dx, [], rfl, Eb _ _ ha, T.iP.cl, T.nP _ (by decide), by decide, ?_⟩
    have X6 : ExtB a H5 (upd (upd H5 b (.tup [.ref p1, .ref p2])) a (.ins CP dx (putF "both_pairs" (.ref b) []))) := fun z o hz h => by rw [upd_ne hz]; exact Ext.upd hb z o h
    refine ⟨_, rfl, p1, vS [x1, x2], rfl, .inl (.of (X6 _ _ p1a t1)), _, rfl, p2, vS [y1, y2], rfl, .inl (.of (X6 _ _ p2a t2)), ?_⟩
    refine ⟨by show 4 ≤ sizeLine; decide, fun L hL => ?_⟩
    have X7 := X6.then (Ext.upd (o := .lst (vS [x1, x2, y1, y2])) hL)
    refine ⟨L, [x1, x2, y1, y2], rfl, .lst upd_same, (by show 4 ≤ 40; decide), fun us pf H8 au mu e8 ff tf => ?_⟩
    have X8 := X7.then e8
    have ha8 : H8 a = some (.ins CP dx (putF "both_pairs" (.ref b) [])) := e8 _ _ (Ext.upd hL _ _ upd_same)
    refine ⟨_, rfl, a, CP, dx, _, rfl, ha8, T.iP.cl, T.nP _ (by decide), (by show 1 < 1000; decide), ?_⟩
    have X9 : ExtB a H5 (upd H8 a (.ins CP dx (putF "all_four" (.ref pf) (putF "both_pairs" (.ref b) [])))) := fun z o hz h => by rw [upd_ne hz]; exact X8 z o hz h
    have hb8 : H8 b = some (.tup [.ref p1, .ref p2]) := e8 _ _ (Ext.upd hL _ _ (by rw [upd_ne nba]; exact upd_same))
    have npa : pf ≠ a := fun z => by
      have := Ext.upd (o := .lst (vS [x1, x2, y1, y2])) hL a _ upd_same
      have ff' : upd _ L (.lst (vS [x1, x2, y1, y2])) pf = none := ff
      rw [z, this] at ff'; cases ff'
    have nd4 : [x1, x2, y1, y2].Nodup := by
      have := (pm1.append pm2).nodup_iff.mpr (List.nodup_append.mpr ⟨n1, n2, n3⟩)
      exact this
    have pu : us.Perm [x1, x2, y1, y2] := (List.perm_ext_iff_of_nodup au.nodup nd4).mpr mu
    have ok : Pt.Ok ⟨x1, x2, y1, y2⟩ := ⟨x12, y12, hs, g4⟩
    refine qq _ ⟨x1, x2, y1, y2⟩ (fun z o hz h => X9 z o hz (E5 _ _ h)) ⟨ok, .inl ⟨pm1, pm2⟩⟩ ⟨dx, b, p1, p2, pf, us, ?_, ?_, X9 _ _ p1a t1, X9 _ _ p2a t2, ?_, au, ?_, ok⟩
    · exact upd_same
    · rw [upd_ne nba]; exact hb8
    · show upd H8 a _ pf = _
      rw [upd_ne npa]; exact tf
    · exact pu
  · refine ⟨_, df hs, iteF ?_⟩
    refine ⟨_, rfl, _, rfl, (by show 2 ≤ sizeLine; decide), fun b hb => ?_⟩
    have Eb := E5.trans (Ext.upd (o := .tup [.ref p2, .ref p1]) hb)
    have nba : b ≠ a := fa E5 hb
    refine ⟨_, rfl, a, CP, dx, [], rfl, Eb _ _ ha, T.iP.cl, T.nP _ (by decide), by decide, ?_⟩
    have X6 : ExtB a H5 (upd (upd H5 b (.tup [.ref p2, .ref p1])) a (.ins CP dx (putF "both_pairs" (.ref b) []))) := fun z o hz h => by rw [upd_ne hz]; exact Ext.upd hb z o h
    refine ⟨_, rfl, p1, vS [x1, x2], rfl, .inl (.of (X6 _ _ p1a t1)), _, rfl, p2, vS [y1, y2], rfl, .inl (.of (X6 _ _ p2a t2)), ?_⟩
    refine ⟨by show 4 ≤ sizeLine; decide, fun L hL => ?_⟩
    have X7 := X6.then (Ext.upd (o := .lst (vS [x1, x2, y1, y2])) hL)
    refine ⟨L, [x1, x2, y1, y2], rfl, .lst upd_same, (by show 4 ≤ 40; decide), fun us pf H8 au mu e8 ff tf => ?_⟩
    have X8 := X7.then e8
    have ha8 : H8 a = some (.ins CP dx (putF "both_pairs" (.ref b) [])) := e8 _ _ (Ext.upd hL _ _ upd_same)
    refine ⟨_, rfl, a, CP, dx, _, rfl, ha8, T.iP.cl, T.nP _ (by decide), (by show 1 < 1000; decide), ?_⟩
    have X9 : ExtB a H5 (upd H8 a (.ins CP dx (putF "all_four" (.ref pf) (putF "both_pairs" (.ref b) [])))) := fun z o hz h => by rw [upd_ne hz]; exact X8 z o hz h
    have hb8 : H8 b = some (.tup [.ref p2, .ref p1]) := e8 _ _ (Ext.upd hL _ _ (by rw [upd_ne nba]; exact upd_same))
    have npa : pf ≠ a := fun z => by
      have := Ext.upd (o := .lst (vS [x1, x2, y1, y2])) hL a _ upd_same
      have ff' : upd _ L (.lst (vS [x1, x2, y1, y2])) pf = none := ff
      rw [z, this] at ff'; cases ff'
    have nd4 : [x1, x2, y1, y2].Nodup := by
      have := (pm1.append pm2).nodup_iff.mpr (List.nodup_append.mpr ⟨n1, n2, n3⟩)
      exact this
    have pu : us.Perm [x1, x2, y1, y2] := (List.perm_ext_iff_of_nodup au.nodup nd4).mpr mu
    have ok : Pt.Ok ⟨y1, y2, x1, x2⟩ := ⟨y12, x12, (sl_tot xne).resolve_left hs, fun s hs => g4 s ((List.perm_append_comm (l₁ := [y1, y2]) (l₂ := [x1, x2])).mem_iff.mp hs)⟩
    refine qq _ ⟨y1, y2, x1, x2⟩ (fun z o hz h => X9 z o hz (E5 _ _ h)) ⟨ok, .inr ⟨pm2, pm1⟩⟩ ⟨dx, b, p2, p1, pf, us, ?_, ?_, X9 _ _ p2a t2, X9 _ _ p1a t1, ?_, au, ?_, ok⟩
    · exact upd_same
    · rw [upd_ne nba]; exact hb8
    · show upd H8 a _ pf = _
      rw [upd_ne npa]; exact tf
    · exact pu.trans (List.perm_append_comm (l₁ := [x1, x2]) (l₂ := [y1, y2]))
theorem part_made {H : Hp} {p q x dx : Addr} {one other : List Str} {R : Hp → Prop} (hx : H x = none) (hd : H dx = none) (hne : dx ≠ x) (h1 : Sq K H p (vS one)) (h2 : Sq K H q (vS other)) (l1 : one.length = 2) (l2 : other.length = 2) (hg : ∀ s ∈ one ++ other, GoodName s) (hn : (one ++ other).Nodup)
    (k : ∀ H' z, Ext H H' → z.Of one other → PartAt CP H' x z → R H') : spPartI K CP ([V.ref x, V.ref p, V.ref q]) (upd (upd H dx (.own x)) x (.ins CP dx [])) (fun v H2 => v = .non ∧ R H2) E0 := by
  have e : Ext H (upd (upd H dx (.own x)) x (.ins CP dx [])) := fun z o h => by rw [upd_ne (ne_of_none h hx), upd_ne (ne_of_none h hd)]; exact h
  exact ⟨x, dx, p, q, one, other, rfl, upd_same, h1.ext e, h2.ext e, l1, l2, hg, hn, fun H' z eb zo pa => ⟨rfl, k H' z (fun a o h => eb a o (ne_of_none h hx) (e a o h)) zo pa⟩⟩
def spFour (CP : Addr) : Sp := fun vs H Q _ => ∃ a x, vs = [.ref a] ∧ PartAt CP H a x ∧ ∀ f f4, TupS H f f4 → Asc f4 → f4.Perm x.four → Q (.ref f) H
theorem sc_Parting_four : FnScope ["self"] ["self"] (fnScope (inClass (top 29) 2)) := ⟨rfl, rfl, rfl, by decide +kernel, rfl, by decide +kernel, by decide +kernel⟩
theorem prp_four (T : TX K mg CP CC CT) : Prp P w K mg base 1 CP "four" (spFour CP) := by
  refine prp_of T.iP.cl T.p_four sc_Parting_four (fun _ _ _ _ _ _ us hl => match us, hl with | [_], _ => rfl) (fun vs H Q E h => by obtain ⟨_, _, rfl, _⟩ := h; rfl) fun f cdv A outer s H vs Q E hr h => ?_
  refine ⟨_, (pss_one (ps_ret (pe_fld (pv 0) rfl))), ?_⟩
  obtain ⟨a, x, rfl, ⟨dx, b, p1, p2, f, f4, h1, h2, h3, h4, h5, r1, r2, r3⟩, q⟩ := h
  exact ⟨_, rfl, a, CP, dx, _, _, rfl, h1, T.iP.cl, T.nP _ (by decide), by rfl, q f f4 h5 r1 r2⟩
def spPairs (CP : Addr) : Sp := fun vs H Q _ => ∃ a x, vs = [.ref a] ∧ PartAt CP H a x ∧ ∀ b p1 p2, H b = some (.tup [.ref p1, .ref p2]) → TupS H p1 [x.p1, x.p2] → TupS H p2 [x.q1, x.q2] → Q (.ref b) H
theorem sc_Parting_pairs : FnScope ["self"] ["self"] (fnScope (inClass (top 29) 3)) := ⟨rfl, rfl, rfl, by decide +kernel, rfl, by decide +kernel, by decide +kernel⟩
theorem prp_pairs (T : TX K mg CP CC CT) : Prp P w K mg base 1 CP "pairs" (spPairs CP) := by
  refine prp_of T.iP.cl T.p_pairs sc_Parting_pairs (fun _ _ _ _ _ _ us hl => match us, hl with | [_], _ => rfl) (fun vs H Q E h => by obtain ⟨_, _, rfl, _⟩ := h; rfl) fun f cdv A outer s H vs Q E hr h => ?_
  refine ⟨_, (pss_one (ps_ret (pe_fld (pv 0) rfl))), ?_⟩
  obtain ⟨a, x, rfl, ⟨dx, b, p1, p2, f, f4, h1, h2, h3, h4, h5, r1, r2, r3⟩, q⟩ := h
  exact ⟨_, rfl, a, CP, dx, _, _, rfl, h1, T.iP.cl, T.nP _ (by decide), by rfl, q b p1 p2 h2 h3 h4⟩
def spPlace (CP : Addr) : Sp := fun vs H Q _ => ∃ a x, vs = [.ref a] ∧ PartAt CP H a x ∧ ∀ p f p1 f4 H', Ext H H' → H' p = some (.tup [.ref f, .ref p1]) → TupS H' p1 [x.p1, x.p2] → TupS H' f f4 → Asc f4 → f4.Perm x.four → Q (.ref p) H'
theorem sc_Parting_parting_place : FnScope ["self"] ["self"] (fnScope (inClass (top 29) 5)) := ⟨rfl, rfl, rfl, by decide +kernel, rfl, by decide +kernel, by decide +kernel⟩
theorem met_place (T : TX K mg CP CC CT) : Met P w K mg base 1 CP "parting_place" (spPlace CP) [] := by
  refine met_of T.iP.cl T.m_place sc_Parting_parting_place (fun _ _ _ _ _ _ us hl => match us, hl with | [_], _ => rfl) (fun vs H Q E h => by obtain ⟨_, _, rfl, _⟩ := h; rfl) fun f cdv A outer s H vs Q E hr h => ?_
  refine ⟨_, (pss_one (ps_ret (pe_tup (pa_cons (pe_fld (pv 0) rfl) (pa_cons (pe_ix ix_tup (pe_fld (pv 0) rfl) pe_int (fun _ _ => rfl)) pa_nil))))), ?_⟩
  obtain ⟨a, x, rfl, ⟨dx, b, p1, p2, f, f4, h1, h2, h3, h4, h5, r1, r2, r3⟩, q⟩ := h
  refine ⟨_, rfl, a, CP, dx, _, _, rfl, h1, T.iP.cl, T.nP _ (by decide), by rfl, ?_⟩
  refine ⟨_, rfl, a, CP, dx, _, _, rfl, h1, T.iP.cl, T.nP _ (by decide), by rfl, b, _, _, _, rfl, rfl, .of h2, atI_nat (j := 0) rfl, ?_⟩
  refine ⟨by show 2 ≤ sizeLine; decide, fun p hp => ?_⟩
  have e := Ext.upd (o := .tup [.ref f, .ref p1]) hp
  exact q p f p1 f4 _ e upd_same (e _ _ h3) (e _ _ h5) r1 r2
/-- an earlier four -/
def PtLt (x y : Pt) : Prop := ∃ fx fy, Asc fx ∧ fx.Perm x.four ∧ Asc fy ∧ fy.Perm y.four ∧ fx ≠ fy ∧ PySem.W.listLt fx fy = true
def spLtP (CP : Addr) : Sp := fun vs H Q _ => ∃ a b x y, vs = [.ref a, .ref b] ∧ PartAt CP H a x ∧ PartAt CP H b y ∧ PtLt x y ∧ ∀ H', Ext H H' → Q (.bl true) H'
theorem sc_Parting___lt__ : FnScope ["self", "other"] ["self", "other"] (fnScope (inClass (top 29) 6)) := ⟨rfl, rfl, rfl, by decide +kernel, rfl, by decide +kernel, by decide +kernel⟩
theorem met_ltP (T : TX K mg CP CC CT) : Met P w K mg base 2 CP "__lt__" (spLtP CP) [] := by
  refine met_of T.iP.cl T.m_ltP sc_Parting___lt__ (fun _ _ _ _ _ _ us hl => match us, hl with | [_, _], _ => rfl) (fun vs H Q E h => by obtain ⟨_, _, _, _, rfl, _⟩ := h; rfl) fun f cdv A outer s H vs Q E hr h => ?_
  refine ⟨_, (pss_one (ps_ret (pe_cmpR (op_ltD (α := Tup Str × Tup Str) (ltd hr (by decide))) (C8.pe_mt0 (met_place T) hr (by decide) (pv 0)) (C8.pe_mt0 (met_place T) hr (by decide) (pv 1)) mk))), ?_⟩
  obtain ⟨a, b, x, y, rfl, hx, hy, ⟨fx, fy, a1, m1, a2, m2, ne, lt⟩, q⟩ := h
  obtain ⟨dx, _, _, _, _, _, hx1, _⟩ := id hx
  obtain ⟨dy, _, _, _, _, _, hy1, _⟩ := id hy
  dsimp only [tNext, tRet, tCB, tCons, tNil, tC, tSeq, tIfS, tTest, tNot, tOr, tAnd, tB, tAndV, tOrV, tNotV, tIf, tDrop, tOp, tChain, rI0, tTup, tLst, tCall, tMeth, tMake, tProp, tFld, sFld, tAsg, gName, tYes, List.map, tNever, tPar, cxK, cxw, cxnK, cxnw, List.singleton_append, List.append_nil, List.cons_append, List.nil_append]
  refine ⟨_, rfl, a, dx, _, rfl, hx1, by rfl, a, x, rfl, hx, fun p f p1 f4 H1 e1 t1 t2 t3 b1 b2 => ?_⟩
  refine ⟨_, rfl, b, dy, _, rfl, e1 _ _ hy1, by rfl, b, y, rfl, hy.ext e1, fun p' f' p1' f4' H2 e2 u1 u2 u3 c1 c2 => ?_⟩
  have k1 : f4 = fx := asc_uniq b1 a1 fun k => (b2.trans m1.symm).mem_iff
  have k2 : f4' = fy := asc_uniq c1 a2 fun k => (c2.trans m2.symm).mem_iff
  subst k1 k2
  refine ⟨(Tup.mk f4, Tup.mk [x.p1, x.p2]), (Tup.mk f4', Tup.mk [y.p1, y.p2]), dp_pair (.of (e2 _ _ t1)) (dp_tup (.of (e2 _ _ t3))) (dp_tup (.of (e2 _ _ t2))), dp_pair (.of u1) (dp_tup (.of u3)) (dp_tup (.of u2)), ?_⟩
  have : PySem.W.DatumOrd.lt (Tup.mk f4, Tup.mk [x.p1, x.p2]) (Tup.mk f4', Tup.mk [y.p1, y.p2]) = true := by
    show (if Tup.mk f4 = Tup.mk f4' then _ else PySem.W.DatumOrd.lt (Tup.mk f4) (Tup.mk f4')) = true
    rw [if_neg fun z => ne (by injection z)]
    exact lt
  rw [this]
  exact q _ (e1.trans e2)
/-- == of partings and None -/
def REqP (CP : Addr) : V → V → Bool → Hp → Prop := fun x y b H => ∃ a p, x = .ref a ∧ PartAt CP H a p ∧ ((∃ c q, y = .ref c ∧ PartAt CP H c q ∧ b = decide (p = q)) ∨ (y = .non ∧ b = false))
theorem sc_Parting___eq__ : FnScope ["self", "other"] ["self", "other"] (fnScope (inClass (top 29) 10)) := ⟨rfl, rfl, rfl, by decide +kernel, rfl, by decide +kernel, by decide +kernel⟩
theorem met_eqP (T : TX K mg CP CC CT) : Met P w K mg base 3 CP "__eq__" (spB (REqP CP)) [] := by
  refine met_of T.iP.cl T.m_eqP sc_Parting___eq__ (fun _ _ _ _ _ _ us hl => match us, hl with | [_, _], _ => rfl) (fun vs H Q E h => by obtain ⟨_, _, _, rfl, _⟩ := h; rfl) fun f cdv A outer s H vs Q E hr h => ?_
  refine ⟨_, (pss_one (ps_ret (pe_and (pe_callB call_isi (by rfl) (T.nb "isinstance" (by decide)) (by decide +kernel) (pa_cons (pv 1) (pa_cons (pe_glob (v := .ref CP) rfl T.c_Parting rfl) pa_nil))) (pe_one (pe_cmpR (op_eqDt (α := Tup Str × Tup Str) (ltd hr (by decide))) (pe_fld (pv 0) rfl) (pe_pr (prp_pairs T) hr (by decide) (pv 1)) mk))))), ?_⟩
  obtain ⟨x, y, b, rfl, ⟨a, p, rfl, hp, h⟩, q⟩ := h
  obtain ⟨dx, b0, p1, p2, f, f4, h1, h2, h3, h4, h5, r1, r2, r3⟩ := id hp
  dsimp only [tNext, tRet, tCB, tCons, tNil, tC, tSeq, tIfS, tTest, tNot, tOr, tAnd, tB, tAndV, tOrV, tNotV, tIf, tDrop, tOp, tChain, rI0, tTup, tLst, tCall, tMeth, tMake, tProp, tFld, sFld, tAsg, gName, tYes, List.map, tNever, tPar, cxK, cxw, cxnK, cxnw, List.singleton_append, List.append_nil, List.cons_append, List.nil_append]
  rcases h with ⟨c, u, rfl, hu, rfl⟩ | ⟨rfl, rfl⟩
  · obtain ⟨dy, b1, p1', p2', f', f4', g1, g2, g3, g4, g5, _⟩ := id hu
    refine ⟨_, rfl, _, _, _, _, true, rfl, .own CP, .base (.ins g1 T.iP.cl T.iP.ha T.iP.hn T.iP.htk T.iP.hm), T.iP.me, true, rfl, iteT ?_⟩
    refine ⟨_, rfl, a, CP, dx, _, _, rfl, h1, T.iP.cl, T.nP _ (by decide), by rfl, _, rfl, c, dy, _, rfl, g1, c, u, rfl, hu, fun bb q1 q2 k1 k2 k3 => ?_⟩
    refine ⟨(Tup.mk [p.p1, p.p2], Tup.mk [p.q1, p.q2]), (Tup.mk [u.p1, u.p2], Tup.mk [u.q1, u.q2]), dp_pair (.of h2) (dp_tup (.of h3)) (dp_tup (.of h4)), dp_pair (.of k1) (dp_tup (.of k2)) (dp_tup (.of k3)), ?_⟩
    have : (decide ((Tup.mk [p.p1, p.p2], Tup.mk [p.q1, p.q2]) = (Tup.mk [u.p1, u.p2], Tup.mk [u.q1, u.q2]))) = decide (p = u) := by
      rw [decide_eq_decide]
      cases p; cases u
      simp
      constructor
      · rintro ⟨⟨rfl, rfl⟩, rfl, rfl⟩; exact ⟨rfl, rfl, rfl, rfl⟩
      · rintro ⟨rfl, rfl, rfl, rfl⟩; exact ⟨⟨rfl, rfl⟩, rfl, rfl⟩
    rw [if_neg (by decide), this]
    exact q
  · exact ⟨_, rfl, _, _, _, _, false, rfl, .own CP, .base .non, T.kPN, false, rfl, iteF q⟩
def ptText (p : Pt) : Str := ((Str.empty ++ Txt.join " " [p.p1, p.p2]) ++ " / ") ++ Txt.join " " [p.q1, p.q2]
def spStrP (CP : Addr) : Sp := fun vs H Q _ => ∃ a x, vs = [.ref a] ∧ PartAt CP H a x ∧ Q (.str (ptText x)) H
theorem sc_Parting___str__ : FnScope ["self", "one", "other"] ["self"] (fnScope (inClass (top 29) 11)) := ⟨rfl, rfl, rfl, by decide +kernel, rfl, by decide +kernel, by decide +kernel⟩
theorem met_strP (T : TX K mg CP CC CT) : Met P w K mg base 1 CP "__str__" (spStrP CP) [] := by
  refine met_of T.iP.cl T.m_strP sc_Parting___str__ (fun _ _ _ _ _ _ us hl => match us, hl with | [_], _ => rfl) (fun vs H Q E h => by obtain ⟨_, _, rfl, _⟩ := h; rfl) fun f cdv A outer s H vs Q E hr h => ?_
  refine ⟨_, (pss_cons (ps_par (i := 1) (j := 2) (by rfl) sc_Parting___str__.nd rfl rfl (by decide) rfl rfl (pa_cons (pe_join pe_str (pe_ix ix_tup (pe_fld (pv 0) rfl) pe_int (fun _ _ => rfl))) (pa_cons (pe_join pe_str (pe_ix ix_tup (pe_fld (pv 0) rfl) pe_int (fun _ _ => rfl))) pa_nil)) (by rfl))
      (pss_one (ps_ret (pe_joined (.cons (pe_fmt (pv 1)) (.cons pe_str (.cons (pe_fmt (pv 2)) .nil))))))), ?_⟩
  obtain ⟨a, x, rfl, ⟨dx, b, p1, p2, f, f4, h1, h2, h3, h4, h5, r1, r2, r3⟩, q⟩ := h
  have j1 : ∀ u v : Str, Txt.join " " [u, v] = u ++ " " ++ v := fun u v => rfl
  have l1 := (r3.g x.p1 (by simp [KM.Pt.four])).2.1
  have l2 := (r3.g x.p2 (by simp [KM.Pt.four])).2.1
  have l3 := (r3.g x.q1 (by simp [KM.Pt.four])).2.1
  have l4 := (r3.g x.q2 (by simp [KM.Pt.four])).2.1
  have es : (" " : Str).length = 1 := rfl
  have et : (" / " : Str).length = 3 := rfl
  have ee : Str.empty.length = 0 := rfl
  have ja : (Txt.join " " [x.p1, x.p2]).length ≤ 17 := by rw [j1, PySem.Str.length_append, PySem.Str.length_append, es]; omega
  have jb : (Txt.join " " [x.q1, x.q2]).length ≤ 17 := by rw [j1, PySem.Str.length_append, PySem.Str.length_append, es]; omega
  have zz : ∀ {n : Nat}, n ≤ 40 → n ≤ sizeLine := fun h => Nat.le_trans h (by decide)
  dsimp only [tNext, tRet, tCB, tCons, tNil, tC, tSeq, tIfS, tTest, tNot, tOr, tAnd, tB, tAndV, tOrV, tNotV, tIf, tDrop, tOp, tChain, rI0, tTup, tLst, tCall, tMeth, tMake, tProp, tFld, sFld, tAsg, gName, tYes, List.map, tNever, tPar, cxK, cxw, cxnK, cxnw, List.singleton_append, List.append_nil, List.cons_append, List.nil_append]
  have sm : ∀ {u v : Str}, u.length ≤ 8 → v.length ≤ 8 → ([u, v].map (·.length)).sum + [u, v].length * (" " : Str).length ≤ 16777216 := fun {u v} h k => by
    rw [es]
    show u.length + (v.length + 0) + 2 * 1 ≤ _
    omega
  refine ⟨⟨_, rfl⟩, _, rfl, a, CP, dx, _, _, rfl, h1, T.iP.cl, T.nP _ (by decide), by rfl, b, _, _, _, rfl, rfl, .of h2, atI_nat (j := 0) rfl, " ", p1, [x.p1, x.p2], rfl, rfl, .inr (.of h3), sm l1 l2, ?_⟩
  refine ⟨⟨_, rfl⟩, _, rfl, a, CP, dx, _, _, rfl, h1, T.iP.cl, T.nP _ (by decide), by rfl, b, _, _, _, rfl, rfl, .of h2, atI_nat (j := 1) rfl, " ", p2, [x.q1, x.q2], rfl, rfl, .inr (.of h4), sm l3 l4, ?_⟩
  refine ⟨_, _, rfl, _, rfl, .inl ⟨_, rfl, zz (by omega), _, rfl, zz (by rw [PySem.Str.length_append, ee]; omega), _, rfl, zz (by rw [PySem.Str.length_append, PySem.Str.length_append, ee, et]; omega), _, rfl, .inl ⟨_, rfl, zz (by omega), _, rfl, zz (by rw [PySem.Str.length_append, PySem.Str.length_append, PySem.Str.length_append, ee, et]; omega), q⟩⟩⟩
theorem of_uniq {z : Pt} {a b c d : Str} (h : z.Of [a, b] [c, d]) (h1 : sl a b) (h2 : sl c d) (h3 : sl a c) : z = ⟨a, b, c, d⟩ := by
  obtain ⟨z1, z2, z3, z4⟩ := z
  have pr : ∀ {u v x y : Str}, sl u v → sl x y → [u, v].Perm [x, y] → u = x ∧ v = y := fun {u v x y} k1 k2 p => by
    have := asc_uniq (l := [u, v]) (l' := [x, y]) (by simpa [Asc] using k1) (by simpa [Asc] using k2) fun k => p.mem_iff
    injection this with e1 e2
    injection e2 with e2 _
    exact ⟨e1, e2⟩
  rcases h.pairs with ⟨p, q⟩ | ⟨p, q⟩
  · obtain ⟨rfl, rfl⟩ := pr h.ok.hp h1 p
    obtain ⟨rfl, rfl⟩ := pr h.ok.hq h2 q
    rfl
  · obtain ⟨rfl, rfl⟩ := pr h.ok.hp h2 p
    obtain ⟨rfl, rfl⟩ := pr h.ok.hq h1 q
    exact absurd h3 (sl_asym h.ok.h)
/-- no parting and the three ways -/
def spAnsOf (K : PySem.W.Frag) (CP : Addr) : Sp := fun vs H Q _ => ∃ t a b c d, vs = [.ref t] ∧ Sq K H t (vS [a, b, c, d]) ∧ Asc [a, b, c, d] ∧ (∀ s ∈ [a, b, c, d], GoodName s) ∧
  ∀ p x y z H', Ext H H' → H' p = some (.tup [.non, .ref x, .ref y, .ref z]) → PartAt CP H' x ⟨a, b, c, d⟩ → PartAt CP H' y ⟨a, c, b, d⟩ → PartAt CP H' z ⟨a, d, b, c⟩ → Q (.ref p) H'
theorem sc_answers_of : FnScope ["four", "least", "second", "third", "last", "found"] ["four"] (fnScope (top 30)) := ⟨rfl, rfl, rfl, by decide +kernel, rfl, by decide +kernel, by decide +kernel⟩
theorem cal_answers_of (T : TX K mg CP CC CT) : Cal P w K mg base 5 "answers_of" (spAnsOf K CP) [] := by
  refine cal_of T.d_answers_of sc_answers_of (fun _ _ _ _ _ _ us hl => match us, hl with | [_], _ => rfl) (fun vs H Q E h => by obtain ⟨_, _, _, _, _, rfl, _⟩ := h; rfl) fun f cdv A outer s H vs Q E hr h => ?_
  refine ⟨_, (pss_cons (ps_if (pt_not (pt_val (C8.pe_c (cal_are_names T) hr (by decide) rfl (pa_cons (pv 0) (pa_cons (C8.pe_gc rfl T.g_FOUR_partings) pa_nil))))) pss_never pss_nil)
      (pss_cons (ps_asg (C8.pe_c (cal_ascending_names T) hr (by decide) rfl (pa_cons (pv 0) pa_nil)) (pg_tup (by rfl) (pgs_cons (pg_name (i := 1) sc_answers_of.nd rfl (Or.inl rfl)) (pgs_cons (pg_name (i := 2) sc_answers_of.nd rfl (Or.inl rfl)) (pgs_cons (pg_name (i := 3) sc_answers_of.nd rfl (Or.inl rfl)) (pgs_cons (pg_name (i := 4) sc_answers_of.nd rfl (Or.inl rfl)) pgs_nil))))))
      (pss_cons (ps_set (i := 5) sc_answers_of.nd rfl (Or.inl rfl) (pe_lst (pa_cons (C8.pe_mk (mak_Parting T) hr (by decide) rfl (pa_cons (pe_tup (pa_cons (pv 1) (pa_cons (pv 2) pa_nil))) (pa_cons (pe_tup (pa_cons (pv 3) (pa_cons (pv 4) pa_nil))) pa_nil))) (pa_cons (C8.pe_mk (mak_Parting T) hr (by decide) rfl (pa_cons (pe_tup (pa_cons (pv 1) (pa_cons (pv 3) pa_nil))) (pa_cons (pe_tup (pa_cons (pv 2) (pa_cons (pv 4) pa_nil))) pa_nil))) pa_nil))))
      (pss_one (ps_ret (pe_tup (pa_cons pe_non (pa_star (pv 5) (pa_cons (C8.pe_mk (mak_Parting T) hr (by decide) rfl (pa_cons (pe_tup (pa_cons (pv 1) (pa_cons (pv 4) pa_nil))) (pa_cons (pe_tup (pa_cons (pv 2) (pa_cons (pv 3) pa_nil))) pa_nil))) pa_nil))))))))), ?_⟩
  obtain ⟨t, a, b, c, d, rfl, hs, ha, hg, q⟩ := h
  dsimp only [tNext, tRet, tCB, tCons, tNil, tC, tSeq, tIfS, tTest, tNot, tOr, tAnd, tB, tAndV, tOrV, tNotV, tIf, tDrop, tOp, tChain, rI0, tTup, tLst, tCall, tMeth, tMake, tProp, tFld, sFld, tAsg, gName, tYes, List.map, tNever, tPar, cxK, cxw, cxnK, cxnw, List.singleton_append, List.append_nil, List.cons_append, List.nil_append]
  refine ⟨_, rfl, t, [a, b, c, d], rfl, hs, hg, ha.nodup, by show 4 ≤ 40; decide, fun H1 e1 => ⟨true, rfl, iteF ?_⟩⟩
  refine ⟨_, rfl, t, [a, b, c, d], rfl, hs.ext e1, by show 4 ≤ 40; decide, fun us p H2 au mu e2 fp tp => ?_⟩
  cases asc_uniq au ha mu
  refine ⟨p, vS [a, b, c, d], rfl, .of tp, rfl, _, _, rfl, _, _, rfl, _, _, rfl, _, _, rfl, rfl, ?_⟩
  dsimp only [tNext, tRet, tCB, tCons, tNil, tC, tSeq, tIfS, tTest, tNot, tOr, tAnd, tB, tAndV, tOrV, tNotV, tIf, tDrop, tOp, tChain, rI0, tTup, tLst, tCall, tMeth, tMake, tProp, tFld, sFld, tAsg, gName, tYes, List.map, tNever, tPar, cxK, cxw, cxnK, cxnw, List.singleton_append, List.append_nil, List.cons_append, List.nil_append]
  have hp : a ≠ b ∧ a ≠ c ∧ a ≠ d ∧ b ≠ c ∧ b ≠ d ∧ c ≠ d := by
    have := ha.nodup
    simp at this
    obtain ⟨⟨h1, h2, h3⟩, ⟨h4, h5⟩, h6⟩ := this
    exact ⟨h1, h2, h3, h4, h5, h6⟩
  obtain ⟨ab, ac, ad, bc, bd, cd⟩ := hp
  have hs' : sl a b ∧ sl a c ∧ sl a d ∧ sl b c ∧ sl b d ∧ sl c d := by
    have := ha
    simp [Asc] at this
    obtain ⟨⟨h1, h2, h3⟩, ⟨h4, h5⟩, h6⟩ := this
    exact ⟨h1, h2, h3, h4, h5, h6⟩
  obtain ⟨sab, sac, sad, sbc, sbd, scd⟩ := hs'
  have two : 2 ≤ sizeLine := by decide
  have E2 := e1.trans e2
  -- the first
  refine ⟨_, rfl, _, rfl, two, fun t1 f1 => ⟨_, rfl, _, rfl, two, fun t2 f2 x dx fx fd nx => ?_⟩⟩
  have c1 := Ext.upd (o := .tup (vS [a, b])) f1
  have c2 := Ext.upd (o := .tup (vS [c, d])) f2
  refine part_made (K := K) (CP := CP) fx fd nx (.tup (xs := vS [a, b]) (c2 _ _ upd_same)) (.tup (xs := vS [c, d]) upd_same) rfl rfl (by grind) (by grind) fun H3 z e3 zo zp => ?_
  cases of_uniq zo sab scd sac
  have E3 := ((E2.trans c1).trans c2).trans e3
  -- the second
  refine ⟨_, rfl, _, rfl, two, fun t3 f3 => ⟨_, rfl, _, rfl, two, fun t4 f4 x' dx' fx' fd' nx' => ?_⟩⟩
  have c3 := Ext.upd (o := .tup (vS [a, c])) f3
  have c4 := Ext.upd (o := .tup (vS [b, d])) f4
  refine part_made (K := K) (CP := CP) fx' fd' nx' (.tup (xs := vS [a, c]) (c4 _ _ upd_same)) (.tup (xs := vS [b, d]) upd_same) rfl rfl (by grind) (by grind) fun H4 z' e4 zo' zp' => ?_
  cases of_uniq zo' sac sbd sab
  have E4 := ((E3.trans c3).trans c4).trans e4
  refine ⟨two, fun L fL => ?_⟩
  have cL := Ext.upd (o := .lst [.ref x, .ref x']) fL
  refine ⟨_, rfl, L, [.ref x, .ref x'], rfl, .inr (.of upd_same), ?_⟩
  refine ⟨_, rfl, _, rfl, two, fun t5 f5 => ⟨_, rfl, _, rfl, two, fun t6 f6 y dy fy fdy ny => ?_⟩⟩
  have c5 := Ext.upd (o := .tup (vS [a, d])) f5
  have c6 := Ext.upd (o := .tup (vS [b, c])) f6
  refine part_made (K := K) (CP := CP) fy fdy ny (.tup (xs := vS [a, d]) (c6 _ _ upd_same)) (.tup (xs := vS [b, c]) upd_same) rfl rfl (by grind) (by grind) fun H5 z'' e5 zo'' zp'' => ?_
  cases of_uniq zo'' sad sbc sab
  refine ⟨by show 4 ≤ sizeLine; decide, fun r fr => ?_⟩
  have cr := Ext.upd (o := .tup [.non, .ref x, .ref x', .ref y]) fr
  have E5 := ((cL.trans c5).trans c6).trans e5
  refine q r x x' y _ (((E4.trans E5)).trans cr) upd_same ?_ ?_ (zp''.ext cr)
  · exact zp.ext ((((c3.trans c4).trans e4).trans E5).trans cr)
  · exact zp'.ext (E5.trans cr)
end
end G
end

section
set_option Elab.async false
set_option linter.all false
set_option maxRecDepth 100000
set_option maxHeartbeats 1000000
/-! cuts -/
namespace G
open PySem PySem.Spec PyProof.Rows L2
open C8 (fnScope fnBody fnArgs Cal Met Mak)
open SkE (call_str_str)
open StX (pa_star tStar)
open PySem.W (Tup)
def CutAt (C : Addr) (H : Hp) (a : Addr) (G F : List Str) : Prop := ∃ dx n f g, H a = some (.ins C dx [("near_side", .ref n), ("far_side", .ref f), ("all_names", .ref g)]) ∧ TupS H n (nearOf G F) ∧ TupS H f F ∧ TupS H g G ∧ CutOk G F
theorem CutAt.ext {C : Addr} {H H' : Hp} {a : Addr} {G F : List Str} (h : CutAt C H a G F) (e : Ext H H') : CutAt C H' a G F := by
  obtain ⟨dx, n, f, g, h1, h2, h3, h4, r⟩ := h
  exact ⟨dx, n, f, g, e _ _ h1, e _ _ h2, e _ _ h3, e _ _ h4, r⟩
section
variable {P : Program} {w : World} {K : PySem.W.Frag} {mg : Str → Option Value} {base : Heap} {CP CC CT : Addr}
/-- in a sequence of texts, as a comprehension over texts asks -/
theorem in_seq {H : Hp} {p : Addr} {l : List Str} {x : Str} {Q : VK} (h : Sq K H p (vS l)) (q : Q (.bl (decide (x ∈ l))) H) : rIn K false (.str x) (.ref p) H Q := ⟨p, vS l, rfl, h, rfl, flat_vS _, by rw [if_neg (by decide), inV_vS]; exact q⟩
theorem notIn_seq {H : Hp} {p : Addr} {l : List Str} {x : Str} {Q : VK} (h : Sq K H p (vS l)) (q : Q (.bl (!decide (x ∈ l))) H) : rIn K true (.str x) (.ref p) H Q := ⟨p, vS l, rfl, h, rfl, flat_vS _, by rw [if_pos rfl, inV_vS]; exact q⟩
def spCutI (K : PySem.W.Frag) (CC : Addr) : Sp := fun vs H Q _ => ∃ a dx p q one other, vs = [.ref a, .ref p, .ref q] ∧ H a = some (.ins CC dx []) ∧ Sq K H p (vS one) ∧ Sq K H q (vS other) ∧ 2 ≤ one.length ∧ 2 ≤ other.length ∧ (one ++ other).length ≤ 40 ∧ (∀ s ∈ one ++ other, GoodName s) ∧ (one ++ other).Nodup ∧
  ∀ H' G F, ExtB a H H' → CutAt CC H' a G F → G.Perm (one ++ other) → (F.Perm other ∨ F.Perm one) → Q .non H'
theorem sc_Cut___init__ : FnScope ["self", "one", "other", "first", "second", "is_turned", "name"] ["self", "one", "other"] (fnScope (inClass (top 37) 0)) := ⟨rfl, rfl, rfl, by decide +kernel, rfl, by decide +kernel, by decide +kernel⟩
theorem mak_Cut (T : TX K mg CP CC CT) : Mak P w K mg base 3 "Cut" CC (spCutI K CC) [] := by
  refine mak_of T.c_Cut T.k_Cut sc_Cut___init__ (fun _ _ _ _ _ _ us hl => match us, hl with | [_, _, _], _ => rfl) (fun vs H Q E h => by obtain ⟨_, _, _, _, _, _, rfl, _⟩ := h; rfl) fun f cdv A outer s H vs Q E hr h => ?_
  refine ⟨_, (pss_cons (ps_if (pt_not (pt_val (C8.pe_c (cal_is_side T) hr (by decide) rfl (pa_cons (pv 1) pa_nil)))) pss_never pss_nil)
      (pss_cons (ps_if (PW.pt (pw_or (pt_not (pt_val (C8.pe_c (cal_is_side T) hr (by decide) rfl (pa_cons (pv 2) pa_nil)))) (pw_or1 (pt_val (pe_callB (cr_any rfl) (by rfl) (T.nb "any" (by decide)) (by decide +kernel) (pa_cons (pe_lc (own := [("name", 6)]) (tt := tYes) rfl sc_Cut___init__.nd (pi_seq (pv 2)) (blkOk_by (N := ["self", "one", "other", "first", "second", "is_turned", "name"]) (sc := fnScope (inClass (top 37) 0)) (own := [("name", 6)]) (by decide +kernel)) (fun _ _ _ _ _ => (pg_name (i := 6) sc_Cut___init__.nd rfl (Or.inl rfl))) (fun _ _ _ _ _ => pts_nil) (fun _ _ _ _ _ => (pe_cmpR (opIn K) (pv 6) (pv 1) mk))) pa_nil)))))) pss_never pss_nil)
      (pss_cons (ps_par (i := 3) (j := 4) (by rfl) sc_Cut___init__.nd rfl rfl (by decide) rfl rfl (pa_cons (C8.pe_c (cal_ascending_cuts T) hr (by decide) rfl (pa_cons (pv 1) pa_nil)) (pa_cons (C8.pe_c (cal_ascending_cuts T) hr (by decide) rfl (pa_cons (pv 2) pa_nil)) pa_nil)) (by rfl))
      (pss_cons (ps_set (i := 5) sc_Cut___init__.nd rfl (Or.inl rfl) (pe_cmpR op_lt_str (pe_ix ix_tup (pv 4) pe_int (fun _ _ => rfl)) (pe_ix ix_tup (pv 3) pe_int (fun _ _ => rfl)) mk))
      (pss_cons (ps_fld (pv 0) (pe_ifExp (pt_val (pv 5)) (pv 4) (pv 3)) rfl)
      (pss_cons (ps_fld (pv 0) (pe_ifExp (pt_val (pv 5)) (pv 3) (pv 4)) rfl)
      (pss_one (ps_fld (pv 0) (C8.pe_c (cal_ascending_cuts T) hr (by decide) rfl (pa_cons (pe_lst (pa_star (pv 3) (pa_star (pv 4) pa_nil))) pa_nil)) rfl)))))))), ?_⟩
  obtain ⟨a, dx, p, q, one, other, rfl, ha, h1, h2, l1, l2, l40, hg, hn, qq⟩ := h
  have hn0 := hn
  rw [List.length_append] at l40
  rw [List.nodup_append] at hn
  obtain ⟨n1, n2, n3⟩ := hn
  dsimp only [tNext, tRet, tCB, tCons, tNil, tC, tSeq, tIfS, tTest, tNot, tOr, tAnd, tB, tAndV, tOrV, tNotV, tIf, tDrop, tOp, tChain, rI0, tTup, tLst, tCall, tMeth, tMake, tProp, tFld, sFld, tAsg, gName, tYes, List.map, tNever, tPar, cxK, cxw, cxnK, cxnw, List.singleton_append, List.append_nil, List.cons_append, List.nil_append]
  refine ⟨_, rfl, p, one, rfl, h1, fun s hs => hg s (List.mem_append_left _ hs), n1, l1, by omega, fun H1 e1 => ⟨true, rfl, iteF ?_⟩⟩
  refine ⟨_, rfl, q, other, rfl, h2.ext e1, fun s hs => hg s (List.mem_append_right _ hs), n2, l2, by omega, fun H2 e2 => ⟨true, rfl, iteF ?_⟩⟩
  refine tlc_of ?_
  have el : (vS other).length = other.length := List.length_map ..
  refine ⟨_, rfl, iseq_of (h2.ext (e1.trans e2)) fun J st ov hst => ?_⟩
  refine lc_map ov (fun _ => .bl false) hst (by rw [el]; exact Nat.le_trans (show other.length ≤ 40 by omega) (by decide)) (fun v H2 M hv e hM => ?_) fun D H3 hD e3 hl => ?_
  · obtain ⟨x, hx, rfl⟩ := List.mem_map.mp hv
    refine ⟨_, rfl, _, rfl, in_seq (h1.ext ((e1.trans e2).trans e)) ?_⟩
    rw [decide_eq_false fun hxo => n3 x hxo x hx rfl]
    exact hM _ Ext.rfl'
  refine ⟨D, other.map (fun _ => false), rfl, SqL.of (by rw [hl]; simp), ?_⟩
  rw [show (other.map fun _ => false).any id = false from by simp]
  refine ⟨false, rfl, iteF ?_⟩
  have E3 := (e1.trans e2).trans e3
  refine ⟨_, rfl, p, one, rfl, h1.ext E3, by omega, n1, fun us1 p1 H4 a1 pm1 e4 f1 t1 => ?_⟩
  have E4 := E3.trans e4
  refine ⟨_, rfl, q, other, rfl, h2.ext E4, by omega, n2, fun us2 p2 H5 a2 pm2 e5 f2 t2 => ?_⟩
  have E5 := E4.trans e5
  have t1 := e5 _ _ t1
  obtain ⟨x1, xr, rfl⟩ : ∃ x r, us1 = x :: r := by
    match us1, pm1.length_eq with
    | [], h => simp at h; omega
    | x :: r, _ => exact ⟨x, r, rfl⟩
  obtain ⟨y1, yr, rfl⟩ : ∃ x r, us2 = x :: r := by
    match us2, pm2.length_eq with
    | [], h => simp at h; omega
    | x :: r, _ => exact ⟨x, r, rfl⟩
  have hd : ∀ x ∈ x1 :: xr, x ∉ y1 :: yr := fun x h k => n3 x (pm1.mem_iff.mp h) x (pm2.mem_iff.mp k) rfl
  have xne : x1 ≠ y1 := fun e => hd x1 List.mem_cons_self (e ▸ List.mem_cons_self)
  have fa : ∀ {H' : Hp} {b : Addr}, Ext H H' → H' b = none → b ≠ a := fun e hb z => by
    have := e _ _ ha
    rw [← z, hb] at this; cases this
  have p1a : p1 ≠ a := fa E3 f1
  have p2a : p2 ≠ a := fa E4 f2
  refine ⟨_, _, rfl, _, rfl, p2, _, _, _, rfl, rfl, .of t2, atI_nat (j := 0) rfl, _, rfl, p1, _, _, _, rfl, rfl, .of t1, atI_nat (j := 0) rfl, _, _, rfl, rfl, ?_⟩
  have pa : (x1 :: xr ++ y1 :: yr).Perm (one ++ other) := pm1.append pm2
  have ha5 := E5 _ _ ha
  -- behind the two sides
  have last : ∀ (n f : Addr) (N F : List Str) (b : Bool), ((b = true ∧ n = p2 ∧ f = p1 ∧ N = y1 :: yr ∧ F = x1 :: xr) ∨ (b = false ∧ n = p1 ∧ f = p2 ∧ N = x1 :: xr ∧ F = y1 :: yr)) → decide (y1.cps.toList < x1.cps.toList) = b →
      ∀ (H6 : Hp), H6 = upd (upd H5 a (.ins CC dx (putF "near_side" (.ref n) []))) a (.ins CC dx (putF "far_side" (.ref f) (putF "near_side" (.ref n) []))) → ExtB a H5 H6 ∧
      ∀ L, H6 L = none → ∀ us pf H8, Asc us → us.Perm (x1 :: xr ++ y1 :: yr) → Ext (upd H6 L (.lst (vS (x1 :: xr ++ y1 :: yr)))) H8 → upd H6 L (.lst (vS (x1 :: xr ++ y1 :: yr))) pf = none → TupS H8 pf us →
        H8 a = some (.ins CC dx (putF "far_side" (.ref f) (putF "near_side" (.ref n) []))) ∧ Q .non (upd H8 a (.ins CC dx (putF "all_names" (.ref pf) (putF "far_side" (.ref f) (putF "near_side" (.ref n) []))))) := by
    intro n f N F b hb hlt H6 e6
    subst e6
    have X6 : ExtB a H5 (upd (upd H5 a (.ins CC dx (putF "near_side" (.ref n) []))) a (.ins CC dx (putF "far_side" (.ref f) (putF "near_side" (.ref n) [])))) := fun z o hz h => by rw [upd_ne hz, upd_ne hz]; exact h
    refine ⟨X6, fun L hL us pf H8 au pu e8 ff tf => ?_⟩
    have eL := Ext.upd (o := .lst (vS (x1 :: xr ++ y1 :: yr))) hL
    have ha8 := e8 _ _ (eL _ _ upd_same)
    refine ⟨ha8, ?_⟩
    have X9 : ExtB a H5 (upd H8 a (.ins CC dx (putF "all_names" (.ref pf) (putF "far_side" (.ref f) (putF "near_side" (.ref n) []))))) := fun z o hz h => by rw [upd_ne hz]; exact ((X6.then eL).then e8) z o hz h
    have npa : pf ≠ a := fun z => by
      have := eL a _ upd_same
      rw [z, this] at ff; cases ff
    have hl : us.length ≤ 40 := by rw [(pu.trans pa).length_eq, List.length_append]; omega
    have tpf : TupS (upd H8 a (.ins CC dx (putF "all_names" (.ref pf) (putF "far_side" (.ref f) (putF "near_side" (.ref n) []))))) pf us := by
      show upd H8 a _ pf = _
      rw [upd_ne npa]; exact tf
    rcases hb with ⟨rfl, rfl, rfl, rfl, rfl⟩ | ⟨rfl, rfl, rfl, rfl, rfl⟩
    · have hs : sl y1 x1 := of_decide_eq_true hlt
      obtain ⟨ok, en⟩ := cut_ok a2 a1 au (fun x h k => hd x k h) (pu.trans List.perm_append_comm) rfl rfl hs (by rw [pm2.length_eq]; exact l2) (by rw [pm1.length_eq]; exact l1) hl (fun x hx => hg x (pa.mem_iff.mp (List.perm_append_comm.mem_iff.mp hx)))
      exact qq _ us (x1 :: xr) (fun z o hz h => X9 z o hz (E5 _ _ h)) ⟨dx, n, f, pf, upd_same, by rw [en]; exact X9 _ _ p2a t2, X9 _ _ p1a t1, tpf, ok⟩ (pu.trans pa) (.inr pm1)
    · have hs : sl x1 y1 := (sl_tot xne).resolve_right (of_decide_eq_false hlt)
      obtain ⟨ok, en⟩ := cut_ok a1 a2 au hd pu rfl rfl hs (by rw [pm1.length_eq]; exact l1) (by rw [pm2.length_eq]; exact l2) hl (fun x hx => hg x (pa.mem_iff.mp hx))
      exact qq _ us (y1 :: yr) (fun z o hz h => X9 z o hz (E5 _ _ h)) ⟨dx, n, f, pf, upd_same, by rw [en]; exact X9 _ _ p1a t1, X9 _ _ p2a t2, tpf, ok⟩ (pu.trans pa) (.inl pm2)
  have ev : vS (x1 :: xr) ++ (vS (y1 :: yr) ++ []) = vS (x1 :: xr ++ y1 :: yr) := by simp
  cases hb : decide (y1.cps.toList < x1.cps.toList) with
  | true =>
    obtain ⟨X6, k⟩ := last p2 p1 _ _ true (.inl ⟨rfl, rfl, rfl, rfl, rfl⟩) hb _ rfl
    refine ⟨_, rfl, true, rfl, iteT ⟨_, rfl, _, rfl, a, CC, dx, [], rfl, ha5, T.iC.cl, T.nC _ (by decide), by show 0 < 1000; decide, ?_⟩⟩
    refine ⟨_, rfl, true, rfl, iteT ⟨_, rfl, _, rfl, a, CC, dx, _, rfl, upd_same, T.iC.cl, T.nC _ (by decide), by show 1 < 1000; decide, ?_⟩⟩
    refine ⟨_, rfl, p1, vS (x1 :: xr), rfl, .inl (.of (X6 _ _ p1a t1)), _, rfl, p2, vS (y1 :: yr), rfl, .inl (.of (X6 _ _ p2a t2)), ?_⟩
    dsimp only [tNil]
    rw [ev]
    refine ⟨by rw [List.length_map, pa.length_eq, List.length_append]; exact Nat.le_trans l40 (by decide), fun L hL => ?_⟩
    refine ⟨L, x1 :: xr ++ y1 :: yr, rfl, .lst upd_same, by rw [pa.length_eq, List.length_append]; exact l40, pa.nodup_iff.mpr hn0, fun us pf H8 au pu e8 ff tf => ?_⟩
    obtain ⟨k1, k2⟩ := k L hL us pf H8 au pu e8 ff tf
    exact ⟨_, rfl, a, CC, dx, _, rfl, k1, T.iC.cl, T.nC _ (by decide), (by show 2 < 1000; decide), k2⟩
  | false =>
    obtain ⟨X6, k⟩ := last p1 p2 _ _ false (.inr ⟨rfl, rfl, rfl, rfl, rfl⟩) hb _ rfl
    refine ⟨_, rfl, false, rfl, iteF ⟨_, rfl, _, rfl, a, CC, dx, [], rfl, ha5, T.iC.cl, T.nC _ (by decide), by show 0 < 1000; decide, ?_⟩⟩
    refine ⟨_, rfl, false, rfl, iteF ⟨_, rfl, _, rfl, a, CC, dx, _, rfl, upd_same, T.iC.cl, T.nC _ (by decide), by show 1 < 1000; decide, ?_⟩⟩
    refine ⟨_, rfl, p1, vS (x1 :: xr), rfl, .inl (.of (X6 _ _ p1a t1)), _, rfl, p2, vS (y1 :: yr), rfl, .inl (.of (X6 _ _ p2a t2)), ?_⟩
    dsimp only [tNil]
    rw [ev]
    refine ⟨by rw [List.length_map, pa.length_eq, List.length_append]; exact Nat.le_trans l40 (by decide), fun L hL => ?_⟩
    refine ⟨L, x1 :: xr ++ y1 :: yr, rfl, .lst upd_same, by rw [pa.length_eq, List.length_append]; exact l40, pa.nodup_iff.mpr hn0, fun us pf H8 au pu e8 ff tf => ?_⟩
    obtain ⟨k1, k2⟩ := k L hL us pf H8 au pu e8 ff tf
    exact ⟨_, rfl, a, CC, dx, _, rfl, k1, T.iC.cl, T.nC _ (by decide), (by show 2 < 1000; decide), k2⟩
end
end G
end

section
set_option Elab.async false
set_option linter.all false
set_option maxRecDepth 100000
set_option maxHeartbeats 1000000
/-! cuts: what they tell -/
namespace G
open PySem PySem.Spec PyProof.Rows L2
open C8 (fnScope fnBody fnArgs Cal Met Mak)
open SkE (call_str_str)
open StX (pa_star tStar)
open PySem.W (Tup)
section
variable {P : Program} {w : World} {K : PySem.W.Frag} {mg : Str → Option Value} {base : Heap} {CP CC CT : Addr}
theorem cut_made {H : Hp} {p q x dx : Addr} {one other : List Str} {R : Hp → Prop} (hx : H x = none) (hd : H dx = none) (hne : dx ≠ x) (h1 : Sq K H p (vS one)) (h2 : Sq K H q (vS other)) (l1 : 2 ≤ one.length) (l2 : 2 ≤ other.length) (l40 : (one ++ other).length ≤ 40) (hg : ∀ s ∈ one ++ other, GoodName s) (hn : (one ++ other).Nodup)
    (k : ∀ H' G F, Ext H H' → CutAt CC H' x G F → G.Perm (one ++ other) → (F.Perm other ∨ F.Perm one) → R H') : spCutI K CC ([V.ref x, V.ref p, V.ref q]) (upd (upd H dx (.own x)) x (.ins CC dx [])) (fun v H2 => v = .non ∧ R H2) E0 := by
  have e : Ext H (upd (upd H dx (.own x)) x (.ins CC dx [])) := fun z o h => by rw [upd_ne (ne_of_none h hx), upd_ne (ne_of_none h hd)]; exact h
  exact ⟨x, dx, p, q, one, other, rfl, upd_same, h1.ext e, h2.ext e, l1, l2, l40, hg, hn, fun H' G F eb ca pg pf => ⟨rfl, k H' G F (fun a o h => eb a o (ne_of_none h hx) (e a o h)) ca pg pf⟩⟩
theorem lo_sl : KM.LO sl := ⟨sl_irr, fun _ _ _ => sl_trans, fun _ _ => sl_tot⟩
theorem CutOk.n40 {G F : List Str} (ok : CutOk G F) : (nearOf G F).length ≤ 40 := Nat.le_trans (List.length_filter_le _ _) ok.l40
theorem CutOk.f40 {G F : List Str} (ok : CutOk G F) : F.length ≤ 40 := Nat.le_trans (KM.asc_sub lo_sl ok.aF ok.aG ok.sub).length_le ok.l40
theorem vS40 {l : List Str} (h : l.length ≤ 40) : (vS l).length ≤ sizeLine := by rw [List.length_map]; exact Nat.le_trans h (by decide)
def keepS (S : List Str) : V → Bool := fun v => match v with | .str z => decide (z ∈ S) | _ => false
theorem filter_vS (S l : List Str) : (vS l).filter (keepS S) = vS (l.filter fun x => decide (x ∈ S)) := by
  rw [List.filter_map]; rfl
def spCutP (CC : Addr) (f : List Str → List Str → List Str) : Sp := fun vs H Q _ => ∃ a G F, vs = [.ref a] ∧ CutAt CC H a G F ∧ ∀ t, TupS H t (f G F) → Q (.ref t) H
theorem sc_Cut_near : FnScope ["self"] ["self"] (fnScope (inClass (top 37) 2)) := ⟨rfl, rfl, rfl, by decide +kernel, rfl, by decide +kernel, by decide +kernel⟩
theorem prp_near (T : TX K mg CP CC CT) : Prp P w K mg base 1 CC "near" (spCutP CC nearOf) := by
  refine prp_of T.iC.cl T.p_near sc_Cut_near (fun _ _ _ _ _ _ us hl => match us, hl with | [_], _ => rfl) (fun vs H Q E h => by obtain ⟨_, _, _, rfl, _⟩ := h; rfl) fun f cdv A outer s H vs Q E hr h => ?_
  refine ⟨_, (pss_one (ps_ret (pe_fld (pv 0) rfl))), ?_⟩
  obtain ⟨a, G, F, rfl, ⟨dx, n, f, g, h1, h2, h3, h4, ok⟩, q⟩ := h
  exact ⟨_, rfl, a, CC, dx, _, _, rfl, h1, T.iC.cl, T.nC _ (by decide), by rfl, q _ h2⟩
theorem sc_Cut_far : FnScope ["self"] ["self"] (fnScope (inClass (top 37) 3)) := ⟨rfl, rfl, rfl, by decide +kernel, rfl, by decide +kernel, by decide +kernel⟩
theorem prp_far (T : TX K mg CP CC CT) : Prp P w K mg base 1 CC "far" (spCutP CC fun _ F => F) := by
  refine prp_of T.iC.cl T.p_far sc_Cut_far (fun _ _ _ _ _ _ us hl => match us, hl with | [_], _ => rfl) (fun vs H Q E h => by obtain ⟨_, _, _, rfl, _⟩ := h; rfl) fun f cdv A outer s H vs Q E hr h => ?_
  refine ⟨_, (pss_one (ps_ret (pe_fld (pv 0) rfl))), ?_⟩
  obtain ⟨a, G, F, rfl, ⟨dx, n, f, g, h1, h2, h3, h4, ok⟩, q⟩ := h
  exact ⟨_, rfl, a, CC, dx, _, _, rfl, h1, T.iC.cl, T.nC _ (by decide), by rfl, q _ h3⟩
theorem sc_Cut_hosts : FnScope ["self"] ["self"] (fnScope (inClass (top 37) 4)) := ⟨rfl, rfl, rfl, by decide +kernel, rfl, by decide +kernel, by decide +kernel⟩
theorem prp_hostsC (T : TX K mg CP CC CT) : Prp P w K mg base 1 CC "hosts" (spCutP CC fun G _ => G) := by
  refine prp_of T.iC.cl T.p_hostsC sc_Cut_hosts (fun _ _ _ _ _ _ us hl => match us, hl with | [_], _ => rfl) (fun vs H Q E h => by obtain ⟨_, _, _, rfl, _⟩ := h; rfl) fun f cdv A outer s H vs Q E hr h => ?_
  refine ⟨_, (pss_one (ps_ret (pe_fld (pv 0) rfl))), ?_⟩
  obtain ⟨a, G, F, rfl, ⟨dx, n, f, g, h1, h2, h3, h4, ok⟩, q⟩ := h
  exact ⟨_, rfl, a, CC, dx, _, _, rfl, h1, T.iC.cl, T.nC _ (by decide), by rfl, q _ h4⟩
theorem tupEq {a b : List Str} : decide (Tup.mk a = Tup.mk b) = decide (a = b) := by rw [decide_eq_decide]; exact ⟨fun h => by injection h, fun h => by rw [h]⟩
/-- == of cuts of the same hosts -/
def REqC (CC : Addr) : V → V → Bool → Hp → Prop := fun x y b H => ∃ a c G F F', x = .ref a ∧ y = .ref c ∧ CutAt CC H a G F ∧ CutAt CC H c G F' ∧ b = decide (F = F')
theorem sc_Cut___eq__ : FnScope ["self", "other"] ["self", "other"] (fnScope (inClass (top 37) 12)) := ⟨rfl, rfl, rfl, by decide +kernel, rfl, by decide +kernel, by decide +kernel⟩
theorem met_eqC (T : TX K mg CP CC CT) : Met P w K mg base 3 CC "__eq__" (spB (REqC CC)) [] := by
  refine met_of T.iC.cl T.m_eqC sc_Cut___eq__ (fun _ _ _ _ _ _ us hl => match us, hl with | [_, _], _ => rfl) (fun vs H Q E h => by obtain ⟨_, _, _, rfl, _⟩ := h; rfl) fun f cdv A outer s H vs Q E hr h => ?_
  refine ⟨_, (pss_one (ps_ret (pe_and (pe_callB call_isi (by rfl) (T.nb "isinstance" (by decide)) (by decide +kernel) (pa_cons (pv 1) (pa_cons (pe_glob (v := .ref CC) rfl T.c_Cut rfl) pa_nil))) (pe_and (pe_cmpR (op_eqDt (α := Tup Str) (ltd hr (by decide))) (pe_fld (pv 0) rfl) (pe_pr (prp_near T) hr (by decide) (pv 1)) mk) (pe_one (pe_cmpR (op_eqDt (α := Tup Str) (ltd hr (by decide))) (pe_fld (pv 0) rfl) (pe_pr (prp_far T) hr (by decide) (pv 1)) mk)))))), ?_⟩
  obtain ⟨x, y, b, rfl, ⟨a, c, G, F, F', rfl, rfl, ha, hc, rfl⟩, q⟩ := h
  obtain ⟨dx, n, f, g, h1, h2, h3, h4, ok⟩ := id ha
  obtain ⟨dy, n', f', g', k1, k2, k3, k4, ok'⟩ := id hc
  dsimp only [tNext, tRet, tCB, tCons, tNil, tC, tSeq, tIfS, tTest, tNot, tOr, tAnd, tB, tAndV, tOrV, tNotV, tIf, tDrop, tOp, tChain, rI0, tTup, tLst, tCall, tMeth, tMake, tProp, tFld, sFld, tAsg, gName, tYes, List.map, tNever, tPar, cxK, cxw, cxnK, cxnw, List.singleton_append, List.append_nil, List.cons_append, List.nil_append]
  refine ⟨_, rfl, _, _, _, _, true, rfl, .own CC, .base (.ins k1 T.iC.cl T.iC.ha T.iC.hn T.iC.htk T.iC.hm), T.iC.me, true, rfl, iteT ?_⟩
  refine ⟨_, rfl, a, CC, dx, _, _, rfl, h1, T.iC.cl, T.nC _ (by decide), by rfl, _, rfl, c, dy, _, rfl, k1, c, G, F', rfl, hc, fun t ht => ?_⟩
  refine ⟨Tup.mk (nearOf G F), Tup.mk (nearOf G F'), dp_tup (.of h2), dp_tup (.of ht), ?_⟩
  rw [if_neg (by decide), tupEq]
  by_cases e : nearOf G F = nearOf G F'
  · refine ⟨true, by rw [decide_eq_true e], iteT ?_⟩
    refine ⟨_, rfl, a, CC, dx, _, _, rfl, h1, T.iC.cl, T.nC _ (by decide), by rfl, _, rfl, c, dy, _, rfl, k1, c, G, F', rfl, hc, fun t ht => ?_⟩
    refine ⟨Tup.mk F, Tup.mk F', dp_tup (.of h3), dp_tup (.of ht), ?_⟩
    rw [if_neg (by decide), tupEq]
    exact q
  · refine ⟨false, by rw [decide_eq_false e], iteF ?_⟩
    rw [decide_eq_false (fun z => e (by rw [z]))] at q
    exact q
/-- makes of a parting whose hosts are the cut's -/
def spMakes (CP CC : Addr) : Sp := fun vs H Q _ => ∃ a c G F p, vs = [.ref a, .ref c] ∧ CutAt CC H a G F ∧ PartAt CP H c p ∧ (∀ x ∈ p.four, x ∈ G) ∧ ∀ H', Ext H H' → Q (.bl (decide (KM.makes F p))) H'
theorem sc_Cut_makes : FnScope ["self", "parting", "name", "marks", "pair"] ["self", "parting"] (fnScope (inClass (top 37) 5)) := ⟨rfl, rfl, rfl, by decide +kernel, rfl, by decide +kernel, by decide +kernel⟩
theorem met_makes (T : TX K mg CP CC CT) : Met P w K mg base 3 CC "makes" (spMakes CP CC) [] := by
  refine met_of T.iC.cl T.m_makes sc_Cut_makes (fun _ _ _ _ _ _ us hl => match us, hl with | [_, _], _ => rfl) (fun vs H Q E h => by obtain ⟨_, _, _, _, _, rfl, _⟩ := h; rfl) fun f cdv A outer s H vs Q E hr h => ?_
  refine ⟨_, (pss_cons (ps_for PassesOwn.never rfl (pi_seq (pe_pr (prp_four T) hr (by decide) (pv 1))) (pg_name (i := 2) sc_Cut_makes.nd rfl (Or.inl rfl)) (pss_one (ps_if (pt_cmpR (opNotIn K) (pv 2) (pe_fld (pv 0) rfl) mk) pss_never pss_nil)))
      (pss_cons (ps_setLc2 (i := 3) (own := [("pair", 4), ("name", 2)]) (vs1 := [2]) (tt := tYes) (tt1 := tYes) rfl sc_Cut_makes.nd rfl rfl (sw_true rfl rfl rfl (by decide +kernel)) (pi_seq (pe_pr (prp_pairs T) hr (by decide) (pv 1))) (blkOk_by (N := ["self", "parting", "name", "marks", "pair"]) (sc := fnScope (inClass (top 37) 5)) (own := [("pair", 4), ("name", 2)]) (by decide +kernel)) (by decide) (fun _ _ _ _ _ => (pg_name (i := 4) sc_Cut_makes.nd rfl (Or.inl rfl))) (fun _ _ _ _ _ => pts_nil) (fun _ _ _ _ _ => (pi_seqK K (pv 4))) (fun _ _ _ _ _ => (pg_name (i := 2) sc_Cut_makes.nd rfl (Or.inl rfl))) (fun _ _ _ _ _ => pts_nil) (fun _ _ _ _ _ => (pe_cmpR (opIn K) (pv 2) (pe_fldK K (pv 0) rfl) mk)))
      (pss_one (ps_ret (pe_and (pe_cmpR (op_eqDt (α := Bool) (ltd hr (by decide))) (pe_ix ix_list (pv 3) pe_int (fun _ _ => rfl)) (pe_ix ix_list (pv 3) pe_int (fun _ _ => rfl)) mk) (pe_and (pe_cmpR (op_eqDt (α := Bool) (ltd hr (by decide))) (pe_ix ix_list (pv 3) pe_int (fun _ _ => rfl)) (pe_ix ix_list (pv 3) pe_int (fun _ _ => rfl)) mk) (pe_one (pe_cmpR (op_neDt (α := Bool) (ltd hr (by decide))) (pe_ix ix_list (pv 3) pe_int (fun _ _ => rfl)) (pe_ix ix_list (pv 3) pe_int (fun _ _ => rfl)) mk)))))))), ?_⟩
  obtain ⟨a, c, G, F, p, rfl, ha, hc, hm, q⟩ := h
  obtain ⟨dx, n, f, g, h1, h2, h3, h4, ok⟩ := id ha
  obtain ⟨dy, b0, p1, p2, ff, f4, k1, _⟩ := id hc
  dsimp only [tNext, tRet, tCB, tCons, tNil, tC, tSeq, tIfS, tTest, tNot, tOr, tAnd, tB, tAndV, tOrV, tNotV, tIf, tDrop, tOp, tChain, rI0, tTup, tLst, tCall, tMeth, tMake, tProp, tFld, sFld, tAsg, gName, tYes, List.map, tNever, tPar, cxK, cxw, cxnK, cxnw, List.singleton_append, List.append_nil, List.cons_append, List.nil_append]
  refine tfor_of ?_
  refine ⟨_, rfl, c, dy, _, rfl, k1, c, p, rfl, hc, fun t t4 ht at4 pt4 => ?_⟩
  refine iseq_of ht.sq fun J st ov hst => ?_
  refine for_over ov (fun _ σ' H' => Ext H H' ∧ ∃ nm, σ' = [some (.ref a), some (.ref c), nm, none, none]) ⟨Ext.rfl', none, rfl⟩ (fun j σ' H' w => hst _ w.1) (fun j σ' H' x w hx => ?_) fun σ' H' w => ?_
  · obtain ⟨e, nm, rfl⟩ := w
    obtain ⟨y, hy, rfl⟩ := List.mem_map.mp (List.mem_of_getElem? hx)
    refine ⟨_, rfl, _, rfl, a, CC, dx, _, _, rfl, e _ _ h1, T.iC.cl, T.nC _ (by decide), by rfl, notIn_seq (TupS.sq (e _ _ h4)) ?_⟩
    rw [decide_eq_true (hm y (pt4.mem_iff.mp hy))]
    exact ⟨false, rfl, iteF ⟨e, _, rfl⟩⟩
  · obtain ⟨e, nm, rfl⟩ := w
    dsimp only [tNext, tRet, tCB, tCons, tNil, tC, tSeq, tIfS, tTest, tNot, tOr, tAnd, tB, tAndV, tOrV, tNotV, tIf, tDrop, tOp, tChain, rI0, tTup, tLst, tCall, tMeth, tMake, tProp, tFld, sFld, tAsg, gName, tYes, List.map, tNever, tPar, cxK, cxw, cxnK, cxnw, List.singleton_append, List.append_nil, List.cons_append, List.nil_append]
    refine tlc2_of ?_
    refine ⟨_, rfl, c, dy, _, rfl, e _ _ k1, c, p, rfl, hc.ext e, fun b q1 q2 t1 t2 t3 => ?_⟩
    refine iseq_of (Sq.tup t1) fun J st ov hst => ?_
    have ne12 : q1 ≠ q2 := fun z => by
      subst z
      have := t2.symm.trans t3
      simp at this
      obtain ⟨dx', _, _, _, _, _, _, _, _, _, _, _, _, pok⟩ := hc
      exact sl_ne pok.h this.1
    have l2 : ∀ x : V, (if x = V.ref q1 then vS [p.p1, p.p2] else vS [p.q1, p.q2]).length = 2 := fun x => by split <;> rfl
    refine lc2_map ov (by decide) (fun x => if x = .ref q1 then vS [p.p1, p.p2] else vS [p.q1, p.q2]) (fun _ y => match y with | .str s => .bl (decide (s ∈ F)) | _ => .non) hst ?_ (fun x H1 R hx e1 hR => ?_) (fun x y H1 M hx hy e1 hM => ?_) fun D H3 hD e3 hl => ?_
    · rw [List.flatMap_cons, List.flatMap_cons, List.flatMap_nil, List.append_nil, List.length_append, l2, l2]; decide
    · refine ⟨_, rfl, ?_⟩
      by_cases z : x = .ref q1
      · subst z
        rw [if_pos rfl] at hR
        exact iseq_from t2.sq e1 hR
      · have z2 : x = .ref q2 := by simpa [z] using hx
        subst z2
        rw [if_neg z] at hR
        exact iseq_from t3.sq e1 hR
    · obtain ⟨u, rfl⟩ : ∃ u, y = .str u := by
        split at hy <;> (obtain ⟨u, _, rfl⟩ := List.mem_map.mp hy; exact ⟨u, rfl⟩)
      exact ⟨_, rfl, _, rfl, a, CC, dx, _, _, rfl, (e.trans e1) _ _ h1, T.iC.cl, T.nC _ (by decide), by rfl, in_seq (TupS.sq ((e.trans e1) _ _ h3)) (hM _ Ext.rfl')⟩
    · have hl : H3 D = some (.lst [.bl (KM.sd F p.p1), .bl (KM.sd F p.p2), .bl (KM.sd F p.q1), .bl (KM.sd F p.q2)]) := by
        rw [hl]
        simp only [List.flatMap_cons, List.flatMap_nil, if_pos, if_neg (show ¬ V.ref q2 = V.ref q1 from fun z => ne12 (by injection z with z; exact z.symm))]
        rfl
      have E3 := e.trans e3
      have eD : ∀ x y : Bool, decide (x = y) = true ∨ decide (x = y) = false := fun x y => by cases decide (x = y) <;> simp
      refine ⟨_, rfl, D, _, _, _, rfl, rfl, .of hl, atI_nat (j := 0) rfl, _, rfl, D, _, _, _, rfl, rfl, .of hl, atI_nat (j := 1) rfl, _, _, .bl _, .bl _, ?_⟩
      by_cases c1 : KM.sd F p.p1 = KM.sd F p.p2
      · refine ⟨true, by rw [if_neg (by decide), decide_eq_true c1], iteT ?_⟩
        refine ⟨_, rfl, D, _, _, _, rfl, rfl, .of hl, atI_nat (j := 2) rfl, _, rfl, D, _, _, _, rfl, rfl, .of hl, atI_nat (j := 3) rfl, _, _, .bl _, .bl _, ?_⟩
        by_cases c2 : KM.sd F p.q1 = KM.sd F p.q2
        · refine ⟨true, by rw [if_neg (by decide), decide_eq_true c2], iteT ?_⟩
          refine ⟨_, rfl, D, _, _, _, rfl, rfl, .of hl, atI_nat (j := 0) rfl, _, rfl, D, _, _, _, rfl, rfl, .of hl, atI_nat (j := 2) rfl, _, _, .bl _, .bl _, ?_⟩
          rw [if_pos rfl]
          have : (!decide (KM.sd F p.p1 = KM.sd F p.q1)) = decide (KM.makes F p) := by
            by_cases z : KM.sd F p.p1 = KM.sd F p.q1
            · rw [decide_eq_true z, decide_eq_false (fun h : KM.makes F p => h.2.2 z)]; rfl
            · rw [decide_eq_false z, decide_eq_true (show KM.makes F p from ⟨c1, c2, z⟩)]; rfl
          rw [this]
          exact q _ E3
        · refine ⟨false, by rw [if_neg (by decide), decide_eq_false c2], iteF ?_⟩
          have := q _ E3
          rw [decide_eq_false (fun h => c2 h.2.1)] at this
          exact this
      · refine ⟨false, by rw [if_neg (by decide), decide_eq_false c1], iteF ?_⟩
        have := q _ E3
        rw [decide_eq_false (fun h => c1 h.1)] at this
        exact this
/-- who crosses whom -/
def Crs (G F F' : List Str) : Prop := ∀ s, (s = nearOf G F ∨ s = F) → ∀ b, (b = nearOf G F' ∨ b = F') → ∃ x ∈ s, x ∈ b
theorem crs_not {G F F' : List Str} (h : KM.Cmp G F F') (hF : ∀ x ∈ F, x ∈ G) (hF' : ∀ x ∈ F', x ∈ G) : ¬ Crs G F F' := by
  intro k
  have k1 := k _ (.inl rfl) _ (.inl rfl)
  have k2 := k _ (.inl rfl) _ (.inr rfl)
  have k3 := k _ (.inr rfl) _ (.inl rfl)
  have k4 := k _ (.inr rfl) _ (.inr rfl)
  simp only [mem_near] at k1 k2 k3
  unfold KM.Cmp at h
  grind
def spCrosses (CC : Addr) : Sp := fun vs H Q _ => ∃ a c G F F', vs = [.ref a, .ref c] ∧ CutAt CC H a G F ∧ CutAt CC H c G F' ∧ KM.Cmp G F F' ∧ ∀ H', Ext H H' → Q (.bl false) H'
theorem sc_Cut_crosses : FnScope ["self", "other", "side", "beside", "name"] ["self", "other"] (fnScope (inClass (top 37) 6)) := ⟨rfl, rfl, rfl, by decide +kernel, rfl, by decide +kernel, by decide +kernel⟩
theorem met_crosses (T : TX K mg CP CC CT) : Met P w K mg base 3 CC "crosses" (spCrosses CC) [] := by
  refine met_of T.iC.cl T.m_crosses sc_Cut_crosses (fun _ _ _ _ _ _ us hl => match us, hl with | [_, _], _ => rfl) (fun vs H Q E h => by obtain ⟨_, _, _, _, _, rfl, _⟩ := h; rfl) fun f cdv A outer s H vs Q E hr h => ?_
  refine ⟨_, (pss_cons (ps_if (PW.pt (pw_or (pt_not (pt_val (pe_callB call_isi (by rfl) (T.nb "isinstance" (by decide)) (by decide +kernel) (pa_cons (pv 1) (pa_cons (pe_glob (v := .ref CC) rfl T.c_Cut rfl) pa_nil))))) (pw_or1 (pt_cmpR (op_neDt (α := Tup Str) (ltd hr (by decide))) (pe_fld (pv 0) rfl) (pe_pr (prp_hostsC T) hr (by decide) (pv 1)) mk)))) pss_never pss_nil)
      (pss_cons (ps_for PassesOwn.never rfl (pi_seq (pe_tup (pa_cons (pe_fld (pv 0) rfl) (pa_cons (pe_fld (pv 0) rfl) pa_nil)))) (pg_name (i := 2) sc_Cut_crosses.nd rfl (Or.inl rfl)) (pss_one (ps_for PassesOwn.never rfl (pi_seq (pe_tup (pa_cons (pe_pr (prp_near T) hr (by decide) (pv 1)) (pa_cons (pe_pr (prp_far T) hr (by decide) (pv 1)) pa_nil)))) (pg_name (i := 3) sc_Cut_crosses.nd rfl (Or.inr rfl)) (pss_one (ps_if (pt_not (pt_val (pe_callB (cr_any rfl) (by rfl) (T.nb "any" (by decide)) (by decide +kernel) (pa_cons (pe_lc (own := [("name", 4)]) (tt := tYes) rfl sc_Cut_crosses.nd (pi_seq (pv 2)) (blkOk_by (N := ["self", "other", "side", "beside", "name"]) (sc := fnScope (inClass (top 37) 6)) (own := [("name", 4)]) (by decide +kernel)) (fun _ _ _ _ _ => (pg_name (i := 4) sc_Cut_crosses.nd rfl (Or.inl rfl))) (fun _ _ _ _ _ => pts_nil) (fun _ _ _ _ _ => (pe_cmpR (opIn K) (pv 4) (pv 3) mk))) pa_nil)))) (pss_one (ps_ret pe_bl)) pss_nil)))))
      (pss_one (ps_ret pe_bl)))), ?_⟩
  obtain ⟨a, c, G, F, F', rfl, ha, hc, hcmp, q⟩ := h
  obtain ⟨dx, n, f, g, h1, h2, h3, h4, ok⟩ := id ha
  obtain ⟨dy, n', f', g', k1, k2, k3, k4, ok'⟩ := id hc
  dsimp only [tNext, tRet, tCB, tCons, tNil, tC, tSeq, tIfS, tTest, tNot, tOr, tAnd, tB, tAndV, tOrV, tNotV, tIf, tDrop, tOp, tChain, rI0, tTup, tLst, tCall, tMeth, tMake, tProp, tFld, sFld, tAsg, gName, tYes, List.map, tNever, tPar, cxK, cxw, cxnK, cxnw, List.singleton_append, List.append_nil, List.cons_append, List.nil_append]
  refine ⟨_, rfl, _, _, _, _, true, rfl, .own CC, .base (.ins k1 T.iC.cl T.iC.ha T.iC.hn T.iC.htk T.iC.hm), T.iC.me, true, rfl, iteF ?_⟩
  refine ⟨_, rfl, a, CC, dx, _, _, rfl, h1, T.iC.cl, T.nC _ (by decide), by rfl, _, rfl, c, dy, _, rfl, k1, c, G, F', rfl, hc, fun t ht => ?_⟩
  refine ⟨Tup.mk G, Tup.mk G, dp_tup (.of h4), dp_tup (.of ht), ?_⟩
  rw [if_pos rfl, tupEq, decide_eq_true rfl]
  refine ⟨false, rfl, iteF ?_⟩
  refine tfor_of ?_
  refine ⟨_, rfl, a, CC, dx, _, _, rfl, h1, T.iC.cl, T.nC _ (by decide), by rfl, _, rfl, a, CC, dx, _, _, rfl, h1, T.iC.cl, T.nC _ (by decide), by rfl, ?_⟩
  refine ⟨by show 2 ≤ sizeLine; decide, fun T0 hT0 => ?_⟩
  refine iseq_of (Sq.tup upd_same) fun J st ov hst => ?_
  let Me : List Str → List Str → Prop := fun s b => ∃ x ∈ s, x ∈ b
  have e0 : Ext H (upd H T0 (.tup [.ref n, .ref f])) := Ext.upd hT0
  let Wo : Nat → L2.St → Hp → Prop := fun j σ' H' => Ext (upd H T0 (.tup [.ref n, .ref f])) H' ∧ (∃ u v, σ' = [some (.ref a), some (.ref c), u, v, none]) ∧ (1 ≤ j → Me (nearOf G F) (nearOf G F') ∧ Me (nearOf G F) F') ∧ (2 ≤ j → Me F (nearOf G F') ∧ Me F F')
  refine for_over ov Wo ⟨Ext.rfl', ⟨none, none, rfl⟩, fun h => absurd h (by omega), fun h => absurd h (by omega)⟩ (fun j σ' H' w => hst _ w.1) (fun j σ' H' x w hx => ?_) fun σ' H' w => ?_
  · obtain ⟨e1, ⟨u, v, rfl⟩, w1, w2⟩ := w
    -- one side
    obtain ⟨r, sd, rfl, hr', l40, w3⟩ : ∃ r sd, x = .ref r ∧ TupS H r sd ∧ sd.length ≤ 40 ∧ (Me sd (nearOf G F') ∧ Me sd F' → (1 ≤ j + 1 → Me (nearOf G F) (nearOf G F') ∧ Me (nearOf G F) F') ∧ (2 ≤ j + 1 → Me F (nearOf G F') ∧ Me F F')) := by
      match j, hx with
      | 0, hx => cases hx; exact ⟨n, _, rfl, h2, ok.n40, fun h => ⟨fun _ => h, fun k => absurd k (by omega)⟩⟩
      | 1, hx => cases hx; exact ⟨f, _, rfl, h3, ok.f40, fun h => ⟨fun _ => w1 (Nat.le_refl _), fun _ => h⟩⟩
      | j + 2, hx => simp at hx
    have E1 := e0.trans e1
    refine tfor_of ?_
    refine ⟨_, rfl, c, dy, _, rfl, E1 _ _ k1, c, G, F', rfl, hc.ext E1, fun tn htn => ?_⟩
    refine ⟨_, rfl, c, dy, _, rfl, E1 _ _ k1, c, G, F', rfl, hc.ext E1, fun tf htf => ?_⟩
    refine ⟨by show 2 ≤ sizeLine; decide, fun T1 hT1 => ?_⟩
    have eT := Ext.upd (o := .tup [.ref tn, .ref tf]) hT1
    refine iseq_of (Sq.tup upd_same) fun J1 st1 ov1 hst1 => ?_
    let Wi : Nat → L2.St → Hp → Prop := fun k σ' H'' => Ext (upd H' T1 (.tup [.ref tn, .ref tf])) H'' ∧ (∃ v, σ' = [some (.ref a), some (.ref c), some (.ref r), v, none]) ∧ (1 ≤ k → Me sd (nearOf G F')) ∧ (2 ≤ k → Me sd F')
    refine for_over ov1 Wi ⟨Ext.rfl', ⟨v, rfl⟩, fun h => absurd h (by omega), fun h => absurd h (by omega)⟩ (fun k σ' H' w => hst1 _ w.1) (fun k σ' H2 x w hx => ?_) fun σ' H2 w => ?_
    · obtain ⟨e2, ⟨v, rfl⟩, w4, w5⟩ := w
      obtain ⟨r', sd', rfl, hr2, w6⟩ : ∃ r' sd', x = .ref r' ∧ TupS H' r' sd' ∧ (Me sd sd' → (1 ≤ k + 1 → Me sd (nearOf G F')) ∧ (2 ≤ k + 1 → Me sd F')) := by
        match k, hx with
        | 0, hx => cases hx; exact ⟨tn, _, rfl, htn, fun h => ⟨fun _ => h, fun k => absurd k (by omega)⟩⟩
        | 1, hx => cases hx; exact ⟨tf, _, rfl, htf, fun h => ⟨fun _ => w4 (Nat.le_refl _), fun _ => h⟩⟩
        | k + 2, hx => simp at hx
      have E2 := (E1.trans eT).trans e2
      dsimp only [tNext, tRet, tCB, tCons, tNil, tC, tSeq, tIfS, tTest, tNot, tOr, tAnd, tB, tAndV, tOrV, tNotV, tIf, tDrop, tOp, tChain, rI0, tTup, tLst, tCall, tMeth, tMake, tProp, tFld, sFld, tAsg, gName, tYes, List.map, tNever, tPar, cxK, cxw, cxnK, cxnw, List.singleton_append, List.append_nil, List.cons_append, List.nil_append]
      refine tlc_of ?_
      refine ⟨_, rfl, iseq_of (TupS.sq (E2 _ _ hr')) fun J st ov hst => ?_⟩
      have h40 : (vS sd).length ≤ sizeLine := vS40 l40
      refine lc_map ov (fun y => match y with | .str z => .bl (decide (z ∈ sd')) | _ => .non) hst h40 (fun y H3 M hy e hM => ?_) fun D H3 hD e3 hl => ?_
      · obtain ⟨z, hz, rfl⟩ := List.mem_map.mp hy
        exact ⟨_, rfl, _, rfl, in_seq (TupS.sq ((eT.trans (e2.trans e)) _ _ hr2)) (hM _ Ext.rfl')⟩
      refine ⟨D, sd.map (fun z => decide (z ∈ sd')), rfl, SqL.of (by rw [hl, List.map_map, List.map_map]; rfl), ?_⟩
      cases hb : (sd.map fun z => decide (z ∈ sd')).any id with
      | true =>
        refine ⟨true, rfl, iteF ?_⟩
        have : Me sd sd' := by
          rw [List.any_map, List.any_eq_true] at hb
          obtain ⟨z, h1, h2⟩ := hb
          exact ⟨z, h1, of_decide_eq_true h2⟩
        exact ⟨e2.trans e3, ⟨_, rfl⟩, w6 this⟩
      | false => exact ⟨false, rfl, iteT (q _ (E2.trans e3))⟩
    · obtain ⟨e2, ⟨v, rfl⟩, w4, w5⟩ := w
      exact ⟨e1.trans (eT.trans e2), ⟨_, _, rfl⟩, w3 ⟨w4 (by simp), w5 (by simp)⟩⟩
  · obtain ⟨e1, ⟨u, v, rfl⟩, w1, w2⟩ := w
    exfalso
    have a1 := w1 (by simp)
    have a2 := w2 (by simp)
    refine crs_not hcmp ok.sub ok'.sub ?_
    rintro s (rfl | rfl) b (rfl | rfl)
    · exact a1.1
    · exact a1.2
    · exact a2.1
    · exact a2.2
/-- a cut of fewer hosts: none where a side is short -/
def spOnlyC (K : PySem.W.Frag) (CC : Addr) : Sp := fun vs H Q _ => ∃ a t G F S, vs = [.ref a, .ref t] ∧ CutAt CC H a G F ∧ Sq K H t (vS S) ∧
  ((((nearOf G F).filter fun x => decide (x ∈ S)).length < 2 ∨ (F.filter fun x => decide (x ∈ S)).length < 2) → ∀ H', Ext H H' → Q .non H') ∧
  (2 ≤ ((nearOf G F).filter fun x => decide (x ∈ S)).length → 2 ≤ (F.filter fun x => decide (x ∈ S)).length → ∀ H' c G1 F1, Ext H H' → H c = none → CutAt CC H' c G1 F1 → G1.Perm ((nearOf G F).filter (fun x => decide (x ∈ S)) ++ F.filter fun x => decide (x ∈ S)) →
    (F1.Perm (F.filter fun x => decide (x ∈ S)) ∨ F1.Perm ((nearOf G F).filter fun x => decide (x ∈ S))) → Q (.ref c) H')
theorem sc_Cut_only : FnScope ["self", "hosts", "near", "far", "name"] ["self", "hosts"] (fnScope (inClass (top 37) 7)) := ⟨rfl, rfl, rfl, by decide +kernel, rfl, by decide +kernel, by decide +kernel⟩
theorem met_onlyC (T : TX K mg CP CC CT) : Met P w K mg base 5 CC "only" (spOnlyC K CC) [] := by
  refine met_of T.iC.cl T.m_onlyC sc_Cut_only (fun _ _ _ _ _ _ us hl => match us, hl with | [_, _], _ => rfl) (fun vs H Q E h => by obtain ⟨_, _, _, _, _, rfl, _⟩ := h; rfl) fun f cdv A outer s H vs Q E hr h => ?_
  refine ⟨_, (pss_cons (ps_setLc (i := 2) (own := [("name", 4)]) rfl sc_Cut_only.nd rfl rfl (sw_true rfl rfl rfl (by decide +kernel)) (pi_seq (pe_fld (pv 0) rfl)) (blkOk_by (N := ["self", "hosts", "near", "far", "name"]) (sc := fnScope (inClass (top 37) 7)) (own := [("name", 4)]) (by decide +kernel)) (fun _ _ _ _ _ => (pg_name (i := 4) sc_Cut_only.nd rfl (Or.inl rfl))) (fun _ _ _ _ _ => (pts_one (pt_cmpR (opIn K) (pv 4) (pv 1) mk))) (fun _ _ _ _ _ => (pv 4)))
      (pss_cons (ps_setLc (i := 3) (own := [("name", 4)]) rfl sc_Cut_only.nd rfl rfl (sw_true rfl rfl rfl (by decide +kernel)) (pi_seq (pe_fld (pv 0) rfl)) (blkOk_by (N := ["self", "hosts", "near", "far", "name"]) (sc := fnScope (inClass (top 37) 7)) (own := [("name", 4)]) (by decide +kernel)) (fun _ _ _ _ _ => (pg_name (i := 4) sc_Cut_only.nd rfl (Or.inl rfl))) (fun _ _ _ _ _ => (pts_one (pt_cmpR (opIn K) (pv 4) (pv 1) mk))) (fun _ _ _ _ _ => (pv 4)))
      (pss_cons (ps_if (PW.pt (pw_or (pt_cmpR op_lt (pe_callB call_len (by rfl) (T.nb "len" (by decide)) (by decide +kernel) (pa_cons (pv 2) pa_nil)) (C8.pe_gc rfl T.g_LEAST_SIDE) mk) (pw_or1 (pt_cmpR op_lt (pe_callB call_len (by rfl) (T.nb "len" (by decide)) (by decide +kernel) (pa_cons (pv 3) pa_nil)) (C8.pe_gc rfl T.g_LEAST_SIDE) mk)))) (pss_one (ps_ret pe_non)) pss_nil)
      (pss_one (ps_ret (C8.pe_mk (mak_Cut T) hr (by decide) rfl (pa_cons (pv 2) (pa_cons (pv 3) pa_nil)))))))), ?_⟩
  obtain ⟨a, t, G, F, S, rfl, ha, ht, q1, q2⟩ := h
  obtain ⟨dx, n, f, g, h1, h2, h3, h4, ok⟩ := id ha
  dsimp only [tNext, tRet, tCB, tCons, tNil, tC, tSeq, tIfS, tTest, tNot, tOr, tAnd, tB, tAndV, tOrV, tNotV, tIf, tDrop, tOp, tChain, rI0, tTup, tLst, tCall, tMeth, tMake, tProp, tFld, sFld, tAsg, gName, tYes, List.map, tNever, tPar, cxK, cxw, cxnK, cxnw, List.singleton_append, List.append_nil, List.cons_append, List.nil_append]
  refine tlc_of ?_
  refine ⟨_, rfl, a, CC, dx, _, _, rfl, h1, T.iC.cl, T.nC _ (by decide), by rfl, ?_⟩
  refine iseq_of (TupS.sq h2) fun J st ov hst => ?_
  refine lc_fil ov (keepS S) (show 4 < 5 by decide) hst (vS40 ok.n40) (fun v H1 M hv e hM => ?_) fun D H1 hD e1 hl => ?_
  · obtain ⟨z, hz, rfl⟩ := List.mem_map.mp hv
    exact ⟨_, rfl, _, rfl, in_seq (ht.ext e) ⟨_, rfl, hM _ Ext.rfl'⟩⟩
  rw [filter_vS] at hl
  refine tlc_of ?_
  refine ⟨_, rfl, a, CC, dx, _, _, rfl, e1 _ _ h1, T.iC.cl, T.nC _ (by decide), by rfl, ?_⟩
  refine iseq_of (TupS.sq (e1 _ _ h3)) fun J st ov hst => ?_
  refine lc_fil ov (keepS S) (show 4 < 5 by decide) hst (vS40 ok.f40) (fun v H2 M hv e hM => ?_) fun D' H2 hD' e2 hl' => ?_
  · obtain ⟨z, hz, rfl⟩ := List.mem_map.mp hv
    exact ⟨_, rfl, _, rfl, in_seq (ht.ext (e1.trans e)) ⟨_, rfl, hM _ Ext.rfl'⟩⟩
  rw [filter_vS] at hl'
  have hl := e2 _ _ hl
  have E2 := e1.trans e2
  have sq1 : Sq K H2 D (vS ((nearOf G F).filter fun x => decide (x ∈ S))) := .lst hl
  have sq2 : Sq K H2 D' (vS (F.filter fun x => decide (x ∈ S))) := .lst hl'
  refine ⟨_, rfl, _, _, rfl, sq1.len, _, _, rfl, rfl, ?_⟩
  rw [List.length_map]
  by_cases c1 : ((nearOf G F).filter fun x => decide (x ∈ S)).length < 2
  · refine ⟨true, dt (by omega), iteT (q1 (.inl c1) _ E2)⟩
  refine ⟨false, df (by omega), iteF ?_⟩
  refine ⟨_, rfl, _, _, rfl, sq2.len, _, _, rfl, rfl, ?_⟩
  rw [List.length_map]
  by_cases c2 : (F.filter fun x => decide (x ∈ S)).length < 2
  · refine ⟨true, dt (by omega), iteT (q1 (.inr c2) _ E2)⟩
  refine ⟨false, df (by omega), iteF ?_⟩
  have hp : ((nearOf G F).filter (fun x => decide (x ∈ S)) ++ F.filter fun x => decide (x ∈ S)).Nodup := by
    refine List.nodup_append.mpr ⟨((ok.aG.filter _).filter _).nodup, (ok.aF.filter _).nodup, fun x hx y hy e => ?_⟩
    subst e
    exact (mem_near.mp (List.mem_filter.mp hx).1).2 (List.mem_filter.mp hy).1
  have hsub : ∀ x ∈ (nearOf G F).filter (fun x => decide (x ∈ S)) ++ F.filter (fun x => decide (x ∈ S)), x ∈ G := fun x hx => by
    rcases List.mem_append.mp hx with h | h
    · exact (mem_near.mp (List.mem_filter.mp h).1).1
    · exact ok.sub _ (List.mem_filter.mp h).1
  have h40 : ((nearOf G F).filter (fun x => decide (x ∈ S)) ++ F.filter fun x => decide (x ∈ S)).length ≤ 40 := Nat.le_trans (hp.length_le_of_subset hsub) ok.l40
  refine ⟨_, rfl, _, rfl, fun x dx' fx fd nx => ?_⟩
  exact cut_made (K := K) (CC := CC) fx fd nx sq1 sq2 (by omega) (by omega) h40 (fun s hs => ok.g s (hsub s hs)) hp fun H' G1 F1 e ca pg pf => q2 (by omega) (by omega) H' x G1 F1 (E2.trans e) (extFree E2 fx) ca pg pf
end
end G
end

section
set_option linter.all false
/-! texts of names -/
namespace G
open PySem PySem.Spec PyProof.Rows
theorem cut_uniq {c : Nat} : ∀ {a b s t : List Nat}, c ∉ a → c ∉ b → a ++ c :: s = b ++ c :: t → a = b ∧ s = t
  | [], [], s, t, _, _, h => by simpa using h
  | [], y :: b, s, t, _, hb, h => by
    simp at h
    exact absurd h.1 (fun e => hb (e ▸ List.mem_cons_self))
  | x :: a, [], s, t, ha, _, h => by
    simp at h
    exact absurd h.1 (fun e => ha (e ▸ List.mem_cons_self))
  | x :: a, y :: b, s, t, ha, hb, h => by
    simp at h
    obtain ⟨e, h⟩ := h
    obtain ⟨e1, e2⟩ := cut_uniq (fun k => ha (List.mem_cons_of_mem _ k)) (fun k => hb (List.mem_cons_of_mem _ k)) h
    exact ⟨by rw [e, e1], e2⟩
abbrev NoC (c : Nat) (s : Str) : Prop := c ∉ s.cps.toList
theorem GoodName.noSp {s : Str} (h : GoodName s) : NoC 32 s := fun k => absurd (h.2.2 _ k) (by decide +kernel)
theorem GoodName.noSl {s : Str} (h : GoodName s) : NoC 47 s := fun k => absurd (h.2.2 _ k) (by decide +kernel)
def kOf (F : List Str) : Str := Txt.join " " F
theorem kOf_one (x : Str) : kOf [x] = x := by
  show PySem.Builtin.Str.glued " " [x] = x
  rw [StrLaws.glued_eq_join]; rfl
theorem kOf_cons (x y : Str) (r : List Str) : kOf (x :: y :: r) = x ++ " " ++ kOf (y :: r) := by
  show PySem.Builtin.Str.glued " " (x :: y :: r) = x ++ " " ++ PySem.Builtin.Str.glued " " (y :: r)
  rw [StrLaws.glued_eq_join, StrLaws.glued_eq_join]; rfl
theorem toL_app (a b : Str) : (a ++ b).cps.toList = a.cps.toList ++ b.cps.toList := by
  show (a.cps ++ b.cps).toList = _
  simp
theorem sp_toL : (" " : Str).cps.toList = [32] := by decide +kernel
theorem kOf_cons_toL (x y : Str) (r : List Str) : (kOf (x :: y :: r)).cps.toList = x.cps.toList ++ 32 :: (kOf (y :: r)).cps.toList := by
  rw [kOf_cons, toL_app, toL_app, sp_toL]; simp
theorem kOf_inj : ∀ {l l' : List Str}, l ≠ [] → l' ≠ [] → (∀ x ∈ l, NoC 32 x) → (∀ x ∈ l', NoC 32 x) → kOf l = kOf l' → l = l'
  | [x], [y], _, _, _, _, h => by rw [kOf_one, kOf_one] at h; rw [h]
  | [x], y :: z :: r, _, _, hx, _, h => by
    have e := congrArg (fun s : Str => s.cps.toList) h
    rw [kOf_one, kOf_cons_toL] at e
    exact absurd (show 32 ∈ x.cps.toList by rw [e]; simp) (hx x (by simp))
  | y :: z :: r, [x], _, _, _, hx, h => by
    have e := congrArg (fun s : Str => s.cps.toList) h
    rw [kOf_one, kOf_cons_toL] at e
    exact absurd (show 32 ∈ x.cps.toList by rw [← e]; simp) (hx x (by simp))
  | x :: y :: r, x' :: y' :: r', _, _, h1, h2, h => by
    have e := congrArg (fun s : Str => s.cps.toList) h
    rw [kOf_cons_toL, kOf_cons_toL] at e
    obtain ⟨e1, e2⟩ := cut_uniq (h1 x (by simp)) (h2 x' (by simp)) e
    rw [str_ext e1, kOf_inj (by simp) (by simp) (fun z hz => h1 z (List.mem_cons_of_mem _ hz)) (fun z hz => h2 z (List.mem_cons_of_mem _ hz)) (str_ext e2)]
theorem ptText_inj {p q : Pt} (hp : p.Ok) (hq : q.Ok) (h : ptText p = ptText q) : p = q := by
  obtain ⟨a, b, c, d⟩ := p
  obtain ⟨a', b', c', d'⟩ := q
  have e := congrArg (fun s : Str => s.cps.toList) h
  have g := hp.g
  have g' := hq.g
  simp only [KM.Pt.four, List.mem_cons, List.not_mem_nil, or_false, forall_eq_or_imp, forall_eq] at g g'
  obtain ⟨ga, gb, gc, gd⟩ := g
  obtain ⟨ga', gb', gc', gd'⟩ := g'
  have key : ∀ x y u v : Str, (ptText ⟨x, y, u, v⟩).cps.toList = x.cps.toList ++ 32 :: (y.cps.toList ++ 32 :: (47 :: 32 :: (u.cps.toList ++ 32 :: v.cps.toList))) := by
    intro x y u v
    have sl : (" / " : Str).cps.toList = [32, 47, 32] := by decide +kernel
    have em : Str.empty.cps.toList = [] := rfl
    show ((((Str.empty ++ kOf [x, y]) ++ " / ") ++ kOf [u, v]).cps.toList) = _
    rw [toL_app, toL_app, toL_app, kOf_cons_toL, kOf_cons_toL, kOf_one, kOf_one, sl, em]
    simp
  rw [key, key] at e
  obtain ⟨e1, e⟩ := cut_uniq ga.noSp ga'.noSp e
  obtain ⟨e2, e⟩ := cut_uniq gb.noSp gb'.noSp e
  injection e with _ e
  injection e with _ e
  obtain ⟨e3, e4⟩ := cut_uniq gc.noSp gc'.noSp e
  rw [str_ext e1, str_ext e2, str_ext e3, str_ext e4]
end G
end

section
set_option Elab.async false
set_option linter.all false
set_option maxRecDepth 100000
set_option maxHeartbeats 1000000
/-! cuts in order; no crossing -/
namespace G
open PySem PySem.Spec PyProof.Rows L2
open C8 (fnScope fnBody fnArgs Cal Met Mak)
open SkE (call_str_str)
open StX (pa_star tStar)
open PySem.W (Tup)
theorem pe_joinK {X : Cx} {o e : Expr} {to te : TE} {apos pos : Pos} (K : PySem.W.Frag) (ho : PE X o to) (he : PE X e te) (h : X.K = K := by rfl) (hs : starEach [e] X.env = [(false, eval e X.env)] := by rfl) (hbase : attributeBase o "join" X.env (eval o X.env) = eval o X.env := by rfl) (hline : (apos.endLine == pos.line) = true := by rfl) :
    PE X (.Call (.Attribute o "join" apos) [e] [] pos) (tM1 (fun x xs H Q => ∃ a p, ∃ ys : List Str, x = .str a ∧ xs = [.ref p] ∧ (SqL K H p (ys.map V.str) ∨ SqT K H p (ys.map V.str)) ∧
      (ys.map (·.length)).sum + ys.length * a.length ≤ 16777216 ∧ Q (.str (Txt.join a ys)) H) to te) := by subst h; exact pe_join ho he hs hbase hline
/-- refs to cuts -/
def CutsAt (CC : Addr) (H : Hp) (rs : List V) (G : List Str) (Fs : List (List Str)) : Prop := All2 (fun r F => ∃ a, r = .ref a ∧ CutAt CC H a G F) rs Fs
theorem CutsAt.ext {CC : Addr} {H H' : Hp} {rs : List V} {G : List Str} {Fs : List (List Str)} (h : CutsAt CC H rs G Fs) (e : Ext H H') : CutsAt CC H' rs G Fs := All2.imp h fun _ _ ⟨a, h1, h2⟩ => ⟨a, h1, h2.ext e⟩
theorem All2.mem_l {α β : Type} {R : α → β → Prop} {xs : List α} {ys : List β} (h : All2 R xs ys) {x : α} (hx : x ∈ xs) : ∃ y ∈ ys, R x y := by
  induction h with
  | nil => cases hx
  | cons r _ ih =>
    rcases List.mem_cons.mp hx with e | k
    · subst e; exact ⟨_, List.mem_cons_self, r⟩
    · obtain ⟨y, hy, r⟩ := ih k
      exact ⟨y, List.mem_cons_of_mem _ hy, r⟩
theorem All2.mem_r {α β : Type} {R : α → β → Prop} {xs : List α} {ys : List β} (h : All2 R xs ys) {y : β} (hy : y ∈ ys) : ∃ x ∈ xs, R x y := by
  induction h with
  | nil => cases hy
  | cons r _ ih =>
    rcases List.mem_cons.mp hy with e | k
    · subst e; exact ⟨_, List.mem_cons_self, r⟩
    · obtain ⟨y, hy, r⟩ := ih k
      exact ⟨y, List.mem_cons_of_mem _ hy, r⟩
theorem CutOk.noSp {G F : List Str} (ok : CutOk G F) : ∀ x ∈ F, NoC 32 x := fun x hx => (ok.g x (ok.sub x hx)).noSp
theorem CutOk.ne {G F : List Str} (ok : CutOk G F) : F ≠ [] := fun e => by have := ok.f2; rw [e] at this; simp at this
theorem CutAt.ok {CC : Addr} {H : Hp} {a : Addr} {G F : List Str} (h : CutAt CC H a G F) : CutOk G F := by
  obtain ⟨_, _, _, _, _, _, _, _, ok⟩ := h; exact ok
theorem CutOk.key {G F G' F' : List Str} (ok : CutOk G F) (ok' : CutOk G' F') (h : kOf F = kOf F') : F = F' := kOf_inj ok.ne ok'.ne ok.noSp ok'.noSp h
theorem CutOk.jz {G F : List Str} (ok : CutOk G F) : (F.map (·.length)).sum + F.length * (" " : Str).length ≤ 16777216 := by
  have h1 : (F.map (·.length)).sum ≤ F.length * 8 := by
    have : ∀ l : List Str, (∀ x ∈ l, x.length ≤ 8) → (l.map (·.length)).sum ≤ l.length * 8 := by
      intro l hl
      induction l with
      | nil => simp
      | cons x r ih =>
        have := ih fun y hy => hl y (List.mem_cons_of_mem _ hy)
        have := hl x List.mem_cons_self
        simp only [List.map_cons, List.sum_cons, List.length_cons]
        omega
    exact this F fun x hx => (ok.g x (ok.sub x hx)).2.1
  have h2 := ok.f40
  have : (" " : Str).length = 1 := rfl
  rw [this]; omega
theorem All2.ex {α β : Type} {R : α → β → Prop} : ∀ {xs : List α}, (∀ x ∈ xs, ∃ y, R x y) → ∃ ys, All2 R xs ys
  | [], _ => ⟨[], .nil⟩
  | x :: r, h => by
    obtain ⟨y, hy⟩ := h x List.mem_cons_self
    obtain ⟨ys, k⟩ := All2.ex fun z hz => h z (List.mem_cons_of_mem _ hz)
    exact ⟨y :: ys, .cons hy k⟩
theorem All2.map_l {α β γ : Type} {R : α → β → Prop} {R' : γ → β → Prop} {f : α → γ} {xs : List α} {ys : List β} (h : All2 R xs ys) (k : ∀ x y, R x y → R' (f x) y) : All2 R' (xs.map f) ys := by
  induction h with
  | nil => exact .nil
  | cons r _ ih => exact .cons (k _ _ r) ih
theorem All2.map_r {α β : Type} {f : β → α} {xs : List α} {ys : List β} (h : All2 (fun x y => x = f y) xs ys) : xs = ys.map f := by
  induction h with
  | nil => rfl
  | cons r _ ih => rw [r, ih]; rfl
theorem vS_inj {l l' : List Str} (h : vS l = vS l') : l = l' := (List.map_inj_right (f := V.str) (fun a b e => by injection e)).mp h
theorem TupS.inj {H : Hp} {p : Addr} {l l' : List Str} (h : TupS H p l) (h' : TupS H p l') : l = l' := by
  have := h.symm.trans h'
  injection this with e
  injection e with e
  exact vS_inj e
theorem CutAt.uniq {CC : Addr} {H : Hp} {a : Addr} {G F G' F' : List Str} (h : CutAt CC H a G F) (h' : CutAt CC H a G' F') : F = F' := by
  obtain ⟨_, n, f, g, h1, h2, h3, h4, _⟩ := h
  obtain ⟨_, n', f', g', k1, k2, k3, k4, _⟩ := h'
  rw [h1] at k1
  injection k1 with e
  injection e with _ _ e
  injection e with _ e
  injection e with e _
  injection e with _ e
  injection e with e
  subst e
  exact h3.inj k3
theorem keys_inr : ∀ {l : List Key}, (∀ k ∈ l, ∃ s : Str, k = .inr s) → ∃ ks : List Str, l = ks.map Sum.inr
  | [], _ => ⟨[], rfl⟩
  | k :: r, h => by
    obtain ⟨s, rfl⟩ := h k List.mem_cons_self
    obtain ⟨ks, e⟩ := keys_inr fun z hz => h z (List.mem_cons_of_mem _ hz)
    exact ⟨s :: ks, by rw [e]; rfl⟩
theorem valV_of_mem {kvs : List (Key × V)} {k : Key} (h : k ∈ kvs.map (·.1)) : ∃ v, valV kvs k = some v := by
  cases e : valV kvs k with
  | some v => exact ⟨v, rfl⟩
  | none => exact absurd h (valV_not e)
theorem over_keys {d : Addr} {o : Obj} {kvs : List (Key × V)} : Over (Itk d o kvs) (kvs.map fun p => kV p.1) (fun H => H d = some (.frz o (.dK kvs))) :=
  ⟨fun i H hi h => ⟨h, by simpa using hi⟩, fun i H hi h => ⟨h, by simpa using hi⟩, fun i H x H' hi h y => by
    obtain ⟨e, k, v, hk, rfl⟩ := y
    exact ⟨e, by simp [hk]⟩⟩
def AscK (Fs : List (List Str)) : Prop := Fs.Pairwise fun F F' => sl (kOf F) (kOf F')
section
variable {P : Program} {w : World} {K : PySem.W.Frag} {mg : Str → Option Value} {base : Heap} {CP CC CT : Addr}
def spInOrder (K : PySem.W.Frag) (CC : Addr) : Sp := fun vs H Q _ => ∃ t rs G Fs, vs = [.ref t] ∧ Sq K H t rs ∧ CutsAt CC H rs G Fs ∧ Fs.length ≤ 40 ∧
  ∀ p us Us H', Ext H H' → H p = none → H' p = some (.tup us) → CutsAt CC H' us G Us → AscK Us → (∀ F, F ∈ Us ↔ F ∈ Fs) → Q (.ref p) H'
theorem sc_in_order : FnScope ["cuts", "by_far", "cut", "key", "text"] ["cuts"] (fnScope (top 38)) := ⟨rfl, rfl, rfl, by decide +kernel, rfl, by decide +kernel, by decide +kernel⟩
theorem cal_in_order (T : TX K mg CP CC CT) : Cal P w K mg base 3 "in_order" (spInOrder K CC) [] := by
  refine cal_of T.d_in_order sc_in_order (fun _ _ _ _ _ _ us hl => match us, hl with | [_], _ => rfl) (fun vs H Q E h => by obtain ⟨_, _, _, _, rfl, _⟩ := h; rfl) fun f cdv A outer s H vs Q E hr h => ?_
  refine ⟨_, (pss_cons (ps_set (i := 1) sc_in_order.nd rfl (Or.inr rfl) (pe_dc (own := [("cut", 2)]) (tt := tYes) rfl sc_in_order.nd (pi_seq (pv 0)) (blkOk_by (N := ["cuts", "by_far", "cut", "key", "text"]) (sc := fnScope (top 38)) (own := [("cut", 2)]) (by decide +kernel)) (fun _ _ _ _ _ => (pg_name (i := 2) sc_in_order.nd rfl (Or.inl rfl))) (fun _ _ _ _ _ => pts_nil) (fun _ _ _ _ _ => (pe_joinK K pe_str (pe_pr (prp_far T) hr (by decide) (pv 2)))) (fun _ _ _ _ _ => (pv 2))))
      (pss_one (ps_ret (pe_callTy call_tuple_of (by rfl) (T.nb "tuple" (by decide)) (by decide +kernel) (pa_cons (pe_lc (own := [("text", 4)]) (tt := tYes) rfl sc_in_order.nd (pi_seq (pe_callB cr_sortedS (by rfl) (T.nb "sorted" (by decide)) (by decide +kernel) (pa_cons (pe_lock (pe_lc (own := [("key", 3)]) (tt := tYes) rfl sc_in_order.nd (pi_keys (pv 1)) (blkOk_by (N := ["cuts", "by_far", "cut", "key", "text"]) (sc := fnScope (top 38)) (own := [("key", 3)]) (by decide +kernel)) (fun _ _ _ _ _ => (pg_name (i := 3) sc_in_order.nd rfl (Or.inl rfl))) (fun _ _ _ _ _ => pts_nil) (fun _ _ _ _ _ => (pe_callTy call_str_str (by rfl) (T.nb "str" (by decide)) (by decide +kernel) (pa_cons (pv 3) pa_nil))))) pa_nil))) (blkOk_by (N := ["cuts", "by_far", "cut", "key", "text"]) (sc := fnScope (top 38)) (own := [("text", 4)]) (by decide +kernel)) (fun _ _ _ _ _ => (pg_name (i := 4) sc_in_order.nd rfl (Or.inl rfl))) (fun _ _ _ _ _ => pts_nil) (fun _ _ _ _ _ => (pe_dget (ltd hr (by decide)) (pv 1) (pv 4) (fun _ _ => rfl)))) pa_nil))))), ?_⟩
  obtain ⟨t, rs, G, Fs, rfl, ht, hc, h40, q⟩ := h
  dsimp only [tNext, tRet, tCB, tCons, tNil, tC, tSeq, tIfS, tTest, tNot, tOr, tAnd, tB, tAndV, tOrV, tNotV, tIf, tDrop, tOp, tChain, rI0, tTup, tLst, tCall, tMeth, tMake, tProp, tFld, sFld, tAsg, gName, tYes, List.map, tNever, tPar, cxK, cxw, cxnK, cxnw, List.singleton_append, List.append_nil, List.cons_append, List.nil_append]
  refine tdc_of ?_
  refine ⟨_, rfl, iseq_of ht fun J st ov hst => ?_⟩
  let key : V → Key → Prop := fun v k => ∃ a F, v = .ref a ∧ CutAt CC H a G F ∧ F ∈ Fs ∧ k = .inr (kOf F)
  have hl40 : rs.length ≤ 40 := by rw [← hc.length]; exact h40
  refine dc_over ov key (show 2 < 5 by decide) hst (Nat.le_trans hl40 (by decide)) (fun x H1 M hx e hM => ?_) fun D H1 kvs hD e1 hd hn hl hA hB => ?_
  · obtain ⟨F, hF, a, rfl, ha⟩ := All2.mem_l hc hx
    obtain ⟨dx, n, f, g, h1, h2, h3, h4, ok⟩ := id ha
    exact ⟨⟨_, rfl⟩, _, rfl, a, dx, _, rfl, e _ _ h1, a, G, F, rfl, ha.ext e, fun t ht => ⟨" ", t, F, rfl, rfl, .inr (.of ht), ok.jz, hM (.inr (kOf F)) _ ⟨a, F, rfl, ha, hF, rfl⟩ Ext.rfl'⟩⟩
  obtain ⟨ks, hks⟩ := keys_inr (l := kvs.map (·.1)) fun k hk => by
    obtain ⟨v, hv⟩ := valV_of_mem hk
    obtain ⟨_, _, F, _, _, _, e⟩ := hA k v hv
    exact ⟨_, e⟩
  have hkV : (kvs.map fun p => kV p.1) = vS ks := by
    have : (kvs.map fun p => kV p.1) = (kvs.map (·.1)).map kV := by rw [List.map_map]; rfl
    rw [this, hks, List.map_map]; rfl
  have hkn : ks.Nodup := by rw [hks] at hn; exact (List.pairwise_map.mp hn).imp fun {a b} h (e : a = b) => h (by rw [e])
  have hk40 : ks.length ≤ 40 := by
    have := congrArg List.length hks
    rw [List.length_map, List.length_map] at this
    omega
  refine tlc_of ?_
  refine ⟨D, .dK kvs, hd, trivial, fun od => ?_⟩
  refine tlc_of ?_
  refine ⟨_, rfl, D, od, rfl, .inl ⟨kvs, upd_same, ?_⟩⟩
  refine lc_map over_keys id (fun H' e => e _ _ upd_same) (by rw [hkV]; exact vS40 hk40) (fun v H2 M hv e hM => ?_) fun D2 H2 hD2 e2 hl2 => ?_
  · rw [hkV] at hv
    obtain ⟨z, hz, rfl⟩ := List.mem_map.mp hv
    exact ⟨_, rfl, z, rfl, hM _ Ext.rfl'⟩
  rw [hkV, List.map_id] at hl2
  have ne2 : D2 ≠ D := fun z => by rw [z, upd_same] at hD2; cases hD2
  refine ⟨e2 _ _ upd_same, ?_⟩
  have e3 : Ext H (upd H2 D (.dK kvs)) := fun a u h => by
    have na : a ≠ D := ne_of_none h hD
    rw [upd_ne na]
    exact e2 _ _ (by rw [upd_ne na]; exact e1 _ _ h)
  have hl3 : (upd H2 D (.dK kvs)) D2 = some (.lst (vS ks)) := by rw [upd_ne ne2]; exact hl2
  have hd3 : (upd H2 D (.dK kvs)) D = some (.dK kvs) := upd_same
  generalize upd H2 D (.dK kvs) = H3 at e3 hl3 hd3
  refine ⟨D2, ks, rfl, SqL.of hl3, Nat.lt_of_le_of_lt hk40 (by decide), fun us p3 hp hso hp3 => ?_⟩
  have e4 := Ext.upd (o := .lst (vS us)) hp3
  refine iseq_of (Sq.lst upd_same) fun J4 st4 ov4 hst4 => ?_
  let fv : V → V := fun x => match x with | .str s => (valV kvs (.inr s)).getD .non | _ => .non
  have hus : ∀ s ∈ us, ∃ v, valV kvs (.inr s) = some v := fun s hs => valV_of_mem (by rw [hks]; exact List.mem_map.mpr ⟨s, hp.mem_iff.mp hs, rfl⟩)
  refine lc_map ov4 fv hst4 (vS40 (by rw [hp.length_eq]; exact hk40)) (fun v H4 M hv e hM => ?_) fun D5 H5 hD5 e5 hl5 => ?_
  · obtain ⟨z, hz, rfl⟩ := List.mem_map.mp hv
    obtain ⟨v, hv⟩ := hus z hz
    have e6 := e4.trans e
    refine ⟨_, rfl, _, rfl, D, v, rfl, by rw [← hv]; exact DGet.k (k := .inr z) (e6 _ _ hd3), ?_⟩
    have := hM _ Ext.rfl'
    simp only [fv, hv, Option.getD_some] at this
    exact this
  have E5 := (e3.trans e4).trans e5
  refine ⟨D5, _, rfl, .inl ⟨.of hl5, fun l hl => ?_⟩⟩
  obtain ⟨Us, hU⟩ := All2.ex (R := fun s F => s = kOf F ∧ F ∈ Fs ∧ ∃ a, fv (.str s) = .ref a ∧ CutAt CC H a G F) (xs := us) fun s hs => by
    obtain ⟨v, hv⟩ := hus s hs
    obtain ⟨_, a, F, e, ha, hF, ek⟩ := hA _ _ hv
    injection ek with ek
    exact ⟨F, ek, hF, a, by simp only [fv, hv, Option.getD_some]; exact e, ha⟩
  have eus : us = Us.map kOf := All2.map_r (All2.imp hU fun _ _ h => h.1)
  have E6 := E5.trans (Ext.upd (o := .tup ((vS us).map fv)) hl)
  have hcu : CutsAt CC H ((vS us).map fv) G Us := by
    rw [List.map_map]
    exact All2.map_l hU fun s F h => by
      obtain ⟨_, _, a, h1, h2⟩ := h
      exact ⟨a, h1, h2⟩
  refine q l ((vS us).map fv) Us _ E6 (extFree E5 hl) upd_same (hcu.ext E6) ?_ ?_
  · have := asc_of hso (hp.nodup_iff.mpr hkn)
    rw [eus] at this
    exact List.pairwise_map.mp this
  · intro F
    constructor
    · intro hF
      obtain ⟨s, _, h⟩ := All2.mem_r hU hF
      exact h.2.1
    · intro hF
      obtain ⟨r, hr, a, rfl, ha⟩ := All2.mem_r hc hF
      obtain ⟨k, ⟨a', F', e, ha', _, rfl⟩, hs⟩ := hB _ hr
      injection e with e
      subst e
      have eF := ha.uniq ha'
      subst eF
      obtain ⟨v, hv⟩ := Option.isSome_iff_exists.mp hs
      have hm := valV_in hv
      rw [hks] at hm
      obtain ⟨s, hs, e⟩ := List.mem_map.mp hm
      injection e with e
      subst e
      obtain ⟨F2, h2, e2, _, a2, _, c2⟩ := All2.mem_l hU (hp.mem_iff.mpr hs)
      rw [ha.ok.key c2.ok e2]
      exact h2
def spFirst (K : PySem.W.Frag) (CC : Addr) : Sp := fun vs H Q _ => ∃ t rs G Fs, vs = [.ref t] ∧ Sq K H t rs ∧ CutsAt CC H rs G Fs ∧ Fs.length ≤ 40 ∧ KM.AllCmp G Fs ∧ ∀ H', Ext H H' → Q .non H'
theorem sc_first_crossing : FnScope ["cuts", "at", "one", "other"] ["cuts"] (fnScope (top 39)) := ⟨rfl, rfl, rfl, by decide +kernel, rfl, by decide +kernel, by decide +kernel⟩
theorem cal_first_crossing (T : TX K mg CP CC CT) : Cal P w K mg base 4 "first_crossing" (spFirst K CC) [] := by
  refine cal_of T.d_first_crossing sc_first_crossing (fun _ _ _ _ _ _ us hl => match us, hl with | [_], _ => rfl) (fun vs H Q E h => by obtain ⟨_, _, _, _, rfl, _⟩ := h; rfl) fun f cdv A outer s H vs Q E hr h => ?_
  refine ⟨_, (pss_cons (ps_for PassesOwn.never rfl (pi_enumQ (by rfl) (T.nb "enumerate" (by decide)) (pa_cons (pv 0) pa_nil)) (pg_tup (by rfl) (pgs_cons (pg_name (i := 1) sc_first_crossing.nd rfl (Or.inl rfl)) (pgs_cons (pg_name (i := 2) sc_first_crossing.nd rfl (Or.inl rfl)) pgs_nil))) (pss_one (ps_for PassesOwn.never rfl (pi_seq (pe_slice sl_seq (pv 0) (po_some (pe_op op_add (pv 1) pe_int)) po_none)) (pg_name (i := 3) sc_first_crossing.nd rfl (Or.inl rfl)) (pss_one (ps_if (pt_val (C8.pe_mt (met_crosses T) hr (by decide) (pv 2) (pa_cons (pv 3) pa_nil))) (pss_one (ps_ret (pe_tup (pa_cons (pv 2) (pa_cons (pv 3) pa_nil))))) pss_nil)))))
      (pss_one (ps_ret pe_non))), ?_⟩
  obtain ⟨t, rs, G, Fs, rfl, ht, hc, h40, hcmp, q⟩ := h
  dsimp only [tNext, tRet, tCB, tCons, tNil, tC, tSeq, tIfS, tTest, tNot, tOr, tAnd, tB, tAndV, tOrV, tNotV, tIf, tDrop, tOp, tChain, rI0, tTup, tLst, tCall, tMeth, tMake, tProp, tFld, sFld, tAsg, gName, tYes, List.map, tNever, tPar, cxK, cxw, cxnK, cxnw, List.singleton_append, List.append_nil, List.cons_append, List.nil_append]
  refine tfor_of ?_
  refine ⟨_, rfl, ienum_of ht fun J st ov hst => ?_⟩
  refine for_enum ov (fun j σ' H' => Ext H H' ∧ ∃ x y z, σ' = [some (.ref t), x, y, z]) ⟨Ext.rfl', none, none, none, rfl⟩ (fun j σ' H' w => hst _ w.1) (fun j σ' H' T0 x w hx hT => ?_) fun σ' H' w => ?_
  · obtain ⟨e, x0, y0, z0, rfl⟩ := w
    have hxm := List.mem_of_getElem? hx
    obtain ⟨F, hF, a, rfl, ha⟩ := All2.mem_l hc hxm
    obtain ⟨dx, n, f, g, h1, h2, h3, h4, ok⟩ := id ha
    have e1 := e.trans (Ext.upd (o := .tup [.int (j : Nat), .ref a]) hT)
    refine ⟨T0, [.int (j : Nat), .ref a], rfl, .of upd_same, rfl, _, _, rfl, _, _, rfl, rfl, ?_⟩
    dsimp only [tNext, tRet, tCB, tCons, tNil, tC, tSeq, tIfS, tTest, tNot, tOr, tAnd, tB, tAndV, tOrV, tNotV, tIf, tDrop, tOp, tChain, rI0, tTup, tLst, tCall, tMeth, tMake, tProp, tFld, sFld, tAsg, gName, tYes, List.map, tNever, tPar, cxK, cxw, cxnK, cxnw, List.singleton_append, List.append_nil, List.cons_append, List.nil_append]
    refine tfor_of ?_
    refine ⟨_, rfl, _, rfl, _, _, rfl, rfl, _, rfl, ?_⟩
    refine slq_of (ht.ext e1) fun p H2 e2 hs => ?_
    rw [show ((j : Int) + 1) = ((j + 1 : Nat) : Int) by omega, cut_lo] at hs
    refine iseq_of hs fun J2 st2 ov2 hst2 => ?_
    have E2 := e1.trans e2
    refine for_over ov2 (fun k σ' H' => Ext H2 H' ∧ ∃ z, σ' = [some (.ref t), some (.int (j : Nat)), some (.ref a), z]) ⟨Ext.rfl', z0, rfl⟩ (fun j σ' H' w => hst2 _ w.1) (fun k σ' H3 x w hx2 => ?_) fun σ' H3 w => ?_
    · obtain ⟨e3, z1, rfl⟩ := w
      have hx2m := List.mem_of_mem_drop (List.mem_of_getElem? hx2)
      obtain ⟨F2, hF2, a2, rfl, ha2⟩ := All2.mem_l hc hx2m
      have E3 := E2.trans e3
      refine ⟨_, rfl, a, dx, _, rfl, E3 _ _ h1, by rfl, _, rfl, a, a2, G, F, F2, rfl, ha.ext E3, ha2.ext E3, hcmp _ hF _ hF2, fun H4 e4 => ?_⟩
      exact ⟨false, rfl, iteF ⟨e3.trans e4, _, rfl⟩⟩
    · obtain ⟨e3, z1, rfl⟩ := w
      exact ⟨E2.trans e3, _, _, _, rfl⟩
  · obtain ⟨e, x0, y0, z0, rfl⟩ := w
    exact q _ e
end
end G
end

section
set_option Elab.async false
set_option linter.all false
set_option maxRecDepth 100000
set_option maxHeartbeats 1000000
/-! trees: making -/
namespace G
open PySem PySem.Spec PyProof.Rows L2
open C8 (fnScope fnBody fnArgs Cal Met Mak)
open SkE (call_str_str)
open StX (pa_star tStar)
open PySem.W (Tup)
structure HostsOk (G : List Str) : Prop where
  a : Asc G
  n1 : 1 ≤ G.length
  l40 : G.length ≤ 40
  g : ∀ x ∈ G, GoodName x
def TreeAt (CC CT : Addr) (H : Hp) (a : Addr) (G : List Str) (Fs : List (List Str)) : Prop := ∃ dx n o us, H a = some (.ins CT dx [("all_names", .ref n), ("own_cuts", .ref o)]) ∧ TupS H n G ∧ H o = some (.tup us) ∧ CutsAt CC H us G Fs ∧ AscK Fs ∧ KM.AllCmp G Fs ∧ HostsOk G ∧ Fs.length ≤ 40
theorem TreeAt.ext {CC CT : Addr} {H H' : Hp} {a : Addr} {G : List Str} {Fs : List (List Str)} (h : TreeAt CC CT H a G Fs) (e : Ext H H') : TreeAt CC CT H' a G Fs := by
  obtain ⟨dx, n, o, us, h1, h2, h3, h4, r⟩ := h
  exact ⟨dx, n, o, us, e _ _ h1, e _ _ h2, e _ _ h3, h4.ext e, r⟩
theorem CutsAt.ok {CC : Addr} {H : Hp} {us : List V} {G : List Str} {Fs : List (List Str)} (h : CutsAt CC H us G Fs) : ∀ F ∈ Fs, CutOk G F := fun F hF => by
  obtain ⟨_, _, a, _, ha⟩ := All2.mem_r h hF
  exact ha.ok
section
variable {P : Program} {w : World} {K : PySem.W.Frag} {mg : Str → Option Value} {base : Heap} {CP CC CT : Addr}
def spHostsOf (K : PySem.W.Frag) : Sp := fun vs H Q _ => ∃ t l, vs = [.ref t, .int 40] ∧ Sq K H t (vS l) ∧ l.Nodup ∧ 1 ≤ l.length ∧ l.length ≤ 40 ∧ (∀ x ∈ l, GoodName x) ∧ ∀ us p H', Asc us → us.Perm l → Ext H H' → H p = none → TupS H' p us → Q (.ref p) H'
theorem sc_hosts_of : FnScope ["values", "most", "at", "value"] ["values", "most"] (fnScope (top 23)) := ⟨rfl, rfl, rfl, by decide +kernel, rfl, by decide +kernel, by decide +kernel⟩
theorem cal_hosts_of (T : TX K mg CP CC CT) : Cal P w K mg base 2 "hosts_of" (spHostsOf K) [.int 40] := by
  refine calB_of T.d_hosts_of sc_hosts_of (fun vs H Q E h => by obtain ⟨_, _, rfl, _⟩ := h; rfl) fun f cdv A outer s H vs Q E hr h => ?_
  refine ⟨_, (pss_cons (ps_if (PW.pt (pw_or (pt_not (pt_val (pe_callB call_isiT (by rfl) (T.nb "isinstance" (by decide)) (by decide +kernel) (pa_cons (pv 0) (pa_cons (pe_tup (pa_cons (pe_bltn (v := .ty "list") (u := .type "list") (by rfl) (T.nb "list" (by decide)) (by decide +kernel) rfl) (pa_cons (pe_bltn (v := .ty "tuple") (u := .type "tuple") (by rfl) (T.nb "tuple" (by decide)) (by decide +kernel) rfl) pa_nil))) pa_nil))))) (pw_or1 (pt_cmpR op_eq (pe_callB call_len (by rfl) (T.nb "len" (by decide)) (by decide +kernel) (pa_cons (pv 0) pa_nil)) pe_int mk)))) pss_never pss_nil)
      (pss_cons (ps_for PassesOwn.never rfl (pi_enumQ (by rfl) (T.nb "enumerate" (by decide)) (pa_cons (pv 0) pa_nil)) (pg_tup (by rfl) (pgs_cons (pg_name (i := 2) sc_hosts_of.nd rfl (Or.inl rfl)) (pgs_cons (pg_name (i := 3) sc_hosts_of.nd rfl (Or.inl rfl)) pgs_nil))) (pss_one (ps_if (PW.pt (pw_or (pt_not (pt_val (C8.pe_c (cal_is_name T) hr (by decide) rfl (pa_cons (pv 3) pa_nil)))) (pw_or1 (pt_cmpR (opIn K) (pv 3) (pe_slice sl_seq (pv 0) po_none (po_some (pv 2))) mk)))) pss_never pss_nil)))
      (pss_cons (ps_if (pt_cmpR op_gt (pe_callB call_len (by rfl) (T.nb "len" (by decide)) (by decide +kernel) (pa_cons (pv 0) pa_nil)) (pv 1) mk) pss_never pss_nil)
      (pss_one (ps_ret (C8.pe_c (cal_ascending_names T) hr (by decide) rfl (pa_cons (pv 0) pa_nil))))))), ?_⟩
  obtain ⟨t, l, rfl, ht, hn, h1, h40, hg, q⟩ := h
  have el : (vS l).length = l.length := List.length_map ..
  dsimp only [tNext, tRet, tCB, tCons, tNil, tC, tSeq, tIfS, tTest, tNot, tOr, tAnd, tB, tAndV, tOrV, tNotV, tIf, tDrop, tOp, tChain, rI0, tTup, tLst, tCall, tMeth, tMake, tProp, tFld, sFld, tAsg, gName, tYes, List.map, tNever, tPar, cxK, cxw, cxnK, cxnw, List.singleton_append, List.append_nil, List.cons_append, List.nil_append]
  refine ⟨_, rfl, by decide, fun p hp => ?_⟩
  refine isi_sq ht hp fun H1 e1 => ⟨true, rfl, iteF ?_⟩
  refine ⟨_, rfl, _, _, rfl, (ht.ext e1).len, ?_⟩
  refine ⟨rfl, false, congrArg V.bl (decide_eq_false fun e => by injection e with e; rw [el] at e; omega), iteF ?_⟩
  refine tfor_of ?_
  refine ⟨_, rfl, ienum_of (ht.ext e1) fun J st ov hst => ?_⟩
  refine for_enum ov (fun j σ' H' => Ext H1 H' ∧ ∃ x y, σ' = [some (.ref t), some (.int 40), x, y]) ⟨Ext.rfl', none, none, rfl⟩ (fun j σ' H' w => hst _ w.1) (fun j σ' H2 T0 x w hx hT => ?_) fun σ' H2 w => ?_
  · obtain ⟨e2, x0, y0, rfl⟩ := w
    have hxm := List.mem_of_getElem? hx
    obtain ⟨z, hz, rfl⟩ := List.mem_map.mp hxm
    have e3 := (e1.trans e2).trans (Ext.upd (o := .tup [.int (j : Nat), .str z]) hT)
    refine ⟨T0, [.int (j : Nat), .str z], rfl, .of upd_same, rfl, _, _, rfl, _, _, rfl, rfl, ?_⟩
    dsimp only [tNext, tRet, tCB, tCons, tNil, tC, tSeq, tIfS, tTest, tNot, tOr, tAnd, tB, tAndV, tOrV, tNotV, tIf, tDrop, tOp, tChain, rI0, tTup, tLst, tCall, tMeth, tMake, tProp, tFld, sFld, tAsg, gName, tYes, List.map, tNever, tPar, cxK, cxw, cxnK, cxnw, List.singleton_append, List.append_nil, List.cons_append, List.nil_append]
    refine ⟨_, rfl, z, rfl, hg z hz, fun H4 e4 => ⟨true, rfl, iteF ?_⟩⟩
    refine ⟨_, rfl, _, rfl, _, rfl, _, rfl, slq_of (ht.ext (e3.trans e4)) fun p5 H5 e5 hs => ?_⟩
    rw [cut_hi, ← List.map_take] at hs
    refine in_seq hs ⟨false, ?_, iteF ⟨(e2.trans (Ext.upd hT)).trans (e4.trans e5), _, _, rfl⟩⟩
    refine congrArg V.bl (decide_eq_false fun hm => ?_)
    have hj : l[j]? = some z := by
      rw [List.getElem?_map] at hx
      cases e : l[j]? with
      | none => rw [e] at hx; cases hx
      | some y => rw [e] at hx; cases hx; rfl
    obtain ⟨i, hi, e⟩ := List.mem_take_iff_getElem.mp hm
    have hi' : i < j ∧ i < l.length := by omega
    have hjl : j < l.length := by
      rcases Nat.lt_or_ge j l.length with k | k
      · exact k
      · rw [List.getElem?_eq_none k] at hj; cases hj
    rw [List.getElem?_eq_getElem hjl] at hj
    injection hj with hj
    exact (List.pairwise_iff_getElem.mp hn i j hi'.2 hjl hi'.1) (by rw [e, hj])
  · obtain ⟨e2, x0, y0, rfl⟩ := w
    dsimp only [tNext, tRet, tCB, tCons, tNil, tC, tSeq, tIfS, tTest, tNot, tOr, tAnd, tB, tAndV, tOrV, tNotV, tIf, tDrop, tOp, tChain, rI0, tTup, tLst, tCall, tMeth, tMake, tProp, tFld, sFld, tAsg, gName, tYes, List.map, tNever, tPar, cxK, cxw, cxnK, cxnw, List.singleton_append, List.append_nil, List.cons_append, List.nil_append]
    have e3 := e1.trans e2
    refine ⟨_, rfl, _, _, rfl, (ht.ext e3).len, _, rfl, _, _, rfl, rfl, false, df (by rw [el]; omega), iteF ?_⟩
    refine ⟨_, rfl, t, l, rfl, ht.ext e3, h40, fun us p H' au mu e fp tp => ?_⟩
    exact q us p H' au ((List.perm_ext_iff_of_nodup au.nodup hn).mpr mu) (e3.trans e) (extFree e3 fp) tp
def spNeedCuts (K : PySem.W.Frag) (CC : Addr) : Sp := fun vs H Q _ => ∃ g t rs G Fs, vs = [.ref g, .ref t] ∧ TupS H g G ∧ Sq K H t rs ∧ CutsAt CC H rs G Fs ∧ Fs.length ≤ 40 ∧ KM.AllCmp G Fs ∧ ∀ H', Ext H H' → Q .non H'
theorem sc_need_cuts : FnScope ["hosts", "cuts", "at", "cut", "found"] ["hosts", "cuts"] (fnScope (top 48)) := ⟨rfl, rfl, rfl, by decide +kernel, rfl, by decide +kernel, by decide +kernel⟩
theorem cal_need_cuts (T : TX K mg CP CC CT) : Cal P w K mg base 5 "need_cuts" (spNeedCuts K CC) [] := by
  refine cal_of T.d_need_cuts sc_need_cuts (fun _ _ _ _ _ _ us hl => match us, hl with | [_, _], _ => rfl) (fun vs H Q E h => by obtain ⟨_, _, _, _, _, rfl, _⟩ := h; rfl) fun f cdv A outer s H vs Q E hr h => ?_
  refine ⟨_, (pss_cons (ps_if (pt_not (pt_val (pe_callB call_isiT (by rfl) (T.nb "isinstance" (by decide)) (by decide +kernel) (pa_cons (pv 1) (pa_cons (pe_tup (pa_cons (pe_bltn (v := .ty "list") (u := .type "list") (by rfl) (T.nb "list" (by decide)) (by decide +kernel) rfl) (pa_cons (pe_bltn (v := .ty "tuple") (u := .type "tuple") (by rfl) (T.nb "tuple" (by decide)) (by decide +kernel) rfl) pa_nil))) pa_nil))))) pss_never pss_nil)
      (pss_cons (ps_for PassesOwn.never rfl (pi_enumQ (by rfl) (T.nb "enumerate" (by decide)) (pa_cons (pv 1) pa_nil)) (pg_tup (by rfl) (pgs_cons (pg_name (i := 2) sc_need_cuts.nd rfl (Or.inl rfl)) (pgs_cons (pg_name (i := 3) sc_need_cuts.nd rfl (Or.inl rfl)) pgs_nil))) (pss_one (ps_if (PW.pt (pw_or (pt_not (pt_val (pe_callB call_isi (by rfl) (T.nb "isinstance" (by decide)) (by decide +kernel) (pa_cons (pv 3) (pa_cons (pe_glob (v := .ref CC) rfl T.c_Cut rfl) pa_nil))))) (pw_or1 (pt_cmpR (op_neDt (α := Tup Str) (ltd hr (by decide))) (pe_pr (prp_hostsC T) hr (by decide) (pv 3)) (pv 0) mk)))) pss_never pss_nil)))
      (pss_cons (ps_set (i := 4) sc_need_cuts.nd rfl (Or.inl rfl) (C8.pe_c (cal_first_crossing T) hr (by decide) rfl (pa_cons (pv 1) pa_nil)))
      (pss_one (ps_if (pt_cmpR op_notN (pv 4) pe_non (nomark _)) pss_never pss_nil))))), ?_⟩
  obtain ⟨g, t, rs, G, Fs, rfl, hg, ht, hc, h40, hcmp, q⟩ := h
  dsimp only [tNext, tRet, tCB, tCons, tNil, tC, tSeq, tIfS, tTest, tNot, tOr, tAnd, tB, tAndV, tOrV, tNotV, tIf, tDrop, tOp, tChain, rI0, tTup, tLst, tCall, tMeth, tMake, tProp, tFld, sFld, tAsg, gName, tYes, List.map, tNever, tPar, cxK, cxw, cxnK, cxnw, List.singleton_append, List.append_nil, List.cons_append, List.nil_append]
  refine ⟨_, rfl, by decide, fun p hp => ?_⟩
  refine isi_sq ht hp fun H1 e1 => ⟨true, rfl, iteF ?_⟩
  refine tfor_of ?_
  refine ⟨_, rfl, ienum_of (ht.ext e1) fun J st ov hst => ?_⟩
  refine for_enum ov (fun j σ' H' => Ext H1 H' ∧ ∃ x y, σ' = [some (.ref g), some (.ref t), x, y, none]) ⟨Ext.rfl', none, none, rfl⟩ (fun j σ' H' w => hst _ w.1) (fun j σ' H2 T0 x w hx hT => ?_) fun σ' H2 w => ?_
  · obtain ⟨e2, x0, y0, rfl⟩ := w
    obtain ⟨F, hF, a, rfl, ha⟩ := All2.mem_l hc (List.mem_of_getElem? hx)
    have e3 := (e1.trans e2).trans (Ext.upd (o := .tup [.int (j : Nat), .ref a]) hT)
    obtain ⟨dx, n, f, g', k1, k2, k3, k4, ok⟩ := id (ha.ext e3)
    refine ⟨T0, [.int (j : Nat), .ref a], rfl, .of upd_same, rfl, _, _, rfl, _, _, rfl, rfl, ?_⟩
    dsimp only [tNext, tRet, tCB, tCons, tNil, tC, tSeq, tIfS, tTest, tNot, tOr, tAnd, tB, tAndV, tOrV, tNotV, tIf, tDrop, tOp, tChain, rI0, tTup, tLst, tCall, tMeth, tMake, tProp, tFld, sFld, tAsg, gName, tYes, List.map, tNever, tPar, cxK, cxw, cxnK, cxnw, List.singleton_append, List.append_nil, List.cons_append, List.nil_append]
    refine ⟨_, rfl, _, _, _, _, true, rfl, .own CC, .base (.ins k1 T.iC.cl T.iC.ha T.iC.hn T.iC.htk T.iC.hm), T.iC.me, true, rfl, iteF ?_⟩
    refine ⟨_, rfl, a, dx, _, rfl, k1, a, G, F, rfl, ha.ext e3, fun t' ht' => ?_⟩
    refine ⟨_, rfl, Tup.mk G, Tup.mk G, dp_tup (.of ht'), dp_tup (.of (e3 _ _ hg)), ?_⟩
    rw [if_pos rfl, tupEq, decide_eq_true rfl]
    exact ⟨false, rfl, iteF ⟨e2.trans (Ext.upd hT), _, _, rfl⟩⟩
  · obtain ⟨e2, x0, y0, rfl⟩ := w
    dsimp only [tNext, tRet, tCB, tCons, tNil, tC, tSeq, tIfS, tTest, tNot, tOr, tAnd, tB, tAndV, tOrV, tNotV, tIf, tDrop, tOp, tChain, rI0, tTup, tLst, tCall, tMeth, tMake, tProp, tFld, sFld, tAsg, gName, tYes, List.map, tNever, tPar, cxK, cxw, cxnK, cxnw, List.singleton_append, List.append_nil, List.cons_append, List.nil_append]
    have e3 := e1.trans e2
    refine ⟨_, rfl, t, rs, G, Fs, rfl, ht.ext e3, hc.ext e3, h40, hcmp, fun H4 e4 => ?_⟩
    exact ⟨_, rfl, rfl, false, rfl, iteF (q _ (e3.trans e4))⟩
theorem Sq.extB {H H' : Hp} {a t C dx : Addr} {fs : List (Str × V)} {rs : List V} (h : Sq K H t rs) (ha : H a = some (.ins C dx fs)) (e : ExtB a H H') : Sq K H' t rs := by
  have ne : ∀ {o : HO}, H t = some o → (∀ C dx fs, o ≠ .ins C dx fs) → t ≠ a := fun h n z => by rw [z, ha] at h; injection h with h; exact n _ _ _ h.symm
  rcases h with (h | h) | (h | h)
  · rcases h with h | ⟨o, h⟩
    · exact .inl (.inl (.inl (e _ _ (ne h fun _ _ _ z => by cases z) h)))
    · exact .inl (.inl (.inr ⟨o, e _ _ (ne h fun _ _ _ z => by cases z) h⟩))
  · exact .inl (.inr h)
  · rcases h with h | ⟨o, h⟩
    · exact .inr (.inl (.inl (e _ _ (ne h fun _ _ _ z => by cases z) h)))
    · exact .inr (.inl (.inr ⟨o, e _ _ (ne h fun _ _ _ z => by cases z) h⟩))
  · exact .inr (.inr h)
theorem CutAt.extB {H H' : Hp} {a b C dx : Addr} {G F : List Str} (h : CutAt CC H b G F) (ha : H a = some (.ins C dx [])) (e : ExtB a H H') : CutAt CC H' b G F := by
  have ne : ∀ {t : Addr} {o : HO}, H t = some o → o ≠ .ins C dx [] → t ≠ a := fun h n z => by rw [z, ha] at h; injection h with h; exact n h.symm
  obtain ⟨dy, n, f, g, h1, h2, h3, h4, r⟩ := h
  refine ⟨dy, n, f, g, e _ _ (ne h1 fun z => ?_) h1, e _ _ (ne h2 fun z => by cases z) h2, e _ _ (ne h3 fun z => by cases z) h3, e _ _ (ne h4 fun z => by cases z) h4, r⟩
  injection z with _ _ z
  cases z
theorem CutsAt.extB {H H' : Hp} {a C dx : Addr} {us : List V} {G : List Str} {Fs : List (List Str)} (h : CutsAt CC H us G Fs) (ha : H a = some (.ins C dx [])) (e : ExtB a H H') : CutsAt CC H' us G Fs :=
  All2.imp h fun _ _ ⟨b, h1, h2⟩ => ⟨b, h1, h2.extB ha e⟩
/-- a tree's words -/
def spTreeI (K : PySem.W.Frag) (CC CT : Addr) : Sp := fun vs H Q _ => ∃ a dx h t l rs G Fs, vs = [.ref a, .ref h, .ref t] ∧ H a = some (.ins CT dx []) ∧ Sq K H h (vS l) ∧ G.Perm l ∧ HostsOk G ∧ Sq K H t rs ∧ CutsAt CC H rs G Fs ∧ Fs.length ≤ 40 ∧ KM.AllCmp G Fs ∧
  ∀ H' Us, ExtB a H H' → TreeAt CC CT H' a G Us → (∀ F, F ∈ Us ↔ F ∈ Fs) → Q .non H'
theorem sc_Tree___init__ : FnScope ["self", "hosts", "cuts", "names"] ["self", "hosts", "cuts"] (fnScope (inClass (top 50) 1)) := ⟨rfl, rfl, rfl, by decide +kernel, rfl, by decide +kernel, by decide +kernel⟩
theorem mak_Trees (T : TX K mg CP CC CT) : Mak P w K mg base 6 "Tree" CT (spTreeI K CC CT) [] ∧ ∃ T, (∀ H : Hp, SqT K H T []) ∧ Mak P w K mg base 6 "Tree" CT (spTreeI K CC CT) [.ref T] := by
  refine makB_of T.c_Tree T.k_Tree sc_Tree___init__ (fun vs H Q E h => by obtain ⟨_, _, _, _, _, _, _, _, rfl, _⟩ := h; rfl) fun f cdv A outer s H vs Q E hr h => ?_
  refine ⟨_, (pss_cons (ps_set (i := 3) sc_Tree___init__.nd rfl (Or.inl rfl) (C8.pe_c (cal_hosts_of T) hr (by decide) rfl (pa_cons (pv 1) pa_nil)))
      (pss_cons (ps_expr (C8.pe_c (cal_need_cuts T) hr (by decide) rfl (pa_cons (pv 3) (pa_cons (pv 2) pa_nil))))
      (pss_cons (ps_fld (pv 0) (pv 3) rfl)
      (pss_one (ps_fld (pv 0) (C8.pe_c (cal_in_order T) hr (by decide) rfl (pa_cons (pv 2) pa_nil)) rfl))))), ?_⟩
  obtain ⟨a, dx, h, t, l, rs, G, Fs, rfl, ha, hh, hp, hG, ht, hc, h40, hcmp, q⟩ := h
  dsimp only [tNext, tRet, tCB, tCons, tNil, tC, tSeq, tIfS, tTest, tNot, tOr, tAnd, tB, tAndV, tOrV, tNotV, tIf, tDrop, tOp, tChain, rI0, tTup, tLst, tCall, tMeth, tMake, tProp, tFld, sFld, tAsg, gName, tYes, List.map, tNever, tPar, cxK, cxw, cxnK, cxnw, List.singleton_append, List.append_nil, List.cons_append, List.nil_append]
  refine ⟨_, rfl, h, l, rfl, hh, hp.nodup_iff.mp hG.a.nodup, by rw [← hp.length_eq]; exact hG.n1, by rw [← hp.length_eq]; exact hG.l40, fun x hx => hG.g x (hp.mem_iff.mpr hx), fun us p H1 au pu e1 fp tp => ?_⟩
  cases asc_uniq au hG.a fun k => (pu.trans hp.symm).mem_iff
  refine ⟨_, rfl, _, rfl, p, t, rs, G, Fs, rfl, tp, ht.ext e1, hc.ext e1, h40, hcmp, fun H2 e2 => ?_⟩
  have e12 := e1.trans e2
  have pa : p ≠ a := fun z => by rw [z, ha] at fp; cases fp
  refine ⟨_, rfl, _, rfl, a, CT, dx, [], rfl, e12 _ _ ha, T.iT.cl, T.nT _ (by decide), by show 0 < 1000; decide, ?_⟩
  have ha2 := e12 _ _ ha
  have eb : ExtB a H2 (upd H2 a (.ins CT dx (putF "all_names" (.ref p) []))) := extB_upd
  refine ⟨_, rfl, t, rs, G, Fs, rfl, (ht.ext e12).extB ha2 eb, (hc.ext e12).extB ha2 eb, h40, fun o us Us H4 e4 fo to cu au mem => ?_⟩
  have ha4 := e4 _ _ (upd_same (H := H2) (a := a) (o := .ins CT dx (putF "all_names" (.ref p) [])))
  refine ⟨_, rfl, a, CT, dx, _, rfl, ha4, T.iT.cl, T.nT _ (by decide), (by show 1 < 1000; decide), ?_⟩
  have X2 : ExtB a H H2 := fun z o hz h => e12 _ _ h
  have X5 : ExtB a H2 (upd H4 a (.ins CT dx (putF "own_cuts" (.ref o) (putF "all_names" (.ref p) [])))) := fun z u hz h => by rw [upd_ne hz]; exact e4 _ _ (eb z u hz h)
  have eb4 : ExtB a H4 (upd H4 a (.ins CT dx (putF "own_cuts" (.ref o) (putF "all_names" (.ref p) [])))) := extB_upd
  have oa : o ≠ a := fun z => by rw [z, upd_same] at fo; cases fo
  have h40' : Us.length ≤ 40 := by
    have nd : Us.Nodup := by
      refine au.imp ?_
      intro F F' h e
      rw [e] at h
      exact sl_irr _ h
    exact Nat.le_trans (nd.length_le_of_subset fun F hF => (mem F).mp hF) h40
  refine q _ Us (fun z u hz h => X5 z u hz (X2 z u hz h)) ⟨dx, p, o, us, upd_same, X5 _ _ pa (e2 _ _ tp), eb4 _ _ oa to, ?_, au, fun F1 h1 F2 h2 => hcmp F1 ((mem F1).mp h1) F2 ((mem F2).mp h2), hG, h40'⟩ mem
  refine All2.imp cu fun _ _ ⟨b, h1, h2⟩ => ⟨b, h1, ?_⟩
  obtain ⟨dy, n, f, g, k1, k2, k3, k4, r⟩ := h2
  have ne : ∀ {t : Addr} {o : HO}, H4 t = some o → (∀ C dx x, o ≠ .ins C dx [x]) → t ≠ a := fun h n z => by rw [z, ha4] at h; injection h with h; exact n _ _ _ h.symm
  refine ⟨dy, n, f, g, eb4 _ _ (ne k1 fun C dx x z => ?_) k1, eb4 _ _ (ne k2 fun _ _ _ z => by cases z) k2, eb4 _ _ (ne k3 fun _ _ _ z => by cases z) k3, eb4 _ _ (ne k4 fun _ _ _ z => by cases z) k4, r⟩
  injection z with _ _ z
  cases z
end
end G
end

section
set_option Elab.async false
set_option linter.all false
set_option maxRecDepth 100000
set_option maxHeartbeats 1000000
/-! trees: words -/
namespace G
open PySem PySem.Spec PyProof.Rows L2
open C8 (fnScope fnBody fnArgs Cal Met Mak)
open SkE (call_str_str)
open StX (pa_star tStar)
open PySem.W (Tup)
abbrev DC (K : PySem.W.Frag) (CC : Addr) : Eqb := DOwn K CC (REqC CC)
theorem eqB_cut {X : Cx} {CC : Addr} (c : Met X.prog X.w X.K X.mg X.base 3 CC "__eq__" (spB (REqC CC)) []) : RcB X 3 (DC X.K CC) ∧ EqB X 3 (DC X.K CC) := by
  obtain ⟨f, fd, ps, ds, hc, hm, F, b, d⟩ := c.ex
  cases d
  have r : RcB X 3 (DC X.K CC) := rcB_own (E := XK0) F hm.at_ hm.fn b passN
  refine ⟨r, RcB.eqB r (fun x y b H d => ?_) (fun x b H d => ?_)⟩
  · obtain ⟨a, _, _, rfl, _⟩ := d
    exact ⟨fun i z => (by cases z), fun i j z => (by cases z), fun i j z => (by cases z)⟩
  · obtain ⟨_, _, _, _, _, ⟨a, c, G, F, F', e1, e2, h1, h2, rfl⟩, _⟩ := d
    rw [e1] at e2
    injection e2 with e2
    subst e2
    exact decide_eq_true (h1.uniq h2)
theorem op_in_cut {X : Cx} {CC : Addr} {j : Nat} (K : PySem.W.Frag) (c : Met X.prog X.w X.K X.mg X.base 3 CC "__eq__" (spB (REqC CC)) []) (hr : Room j X.A) (hk : 4 ≤ j) (h : X.K = K := by rfl) : OpR X (compareOp .In) (rInB K (DC K CC) false) := by
  subst h; exact op_inB (eqB_cut c).2 (hr.mono hk)
theorem op_eq_cuts {X : Cx} {CC : Addr} {j : Nat} (K : PySem.W.Frag) (c : Met X.prog X.w X.K X.mg X.base 3 CC "__eq__" (spB (REqC CC)) []) (hr : Room j X.A) (hk : 4 ≤ j) (h : X.K = K := by rfl) : OpR X (compareOp .Eq) (rRcB (DTupB K (DC K CC))) := by
  subst h; exact op_eqB (rcB_tup (eqB_cut c).2) (hr.mono hk)
section
variable {P : Program} {w : World} {K : PySem.W.Frag} {mg : Str → Option Value} {base : Heap} {CP CC CT : Addr}
theorem dc_of (T : TX K mg CP CC CT) {H : Hp} {a c : Addr} {G F F' : List Str} (ha : CutAt CC H a G F) (hc : CutAt CC H c G F') : DC K CC (.ref a) (.ref c) (decide (F = F')) H := by
  obtain ⟨dx, _, _, _, h1, _⟩ := id ha
  obtain ⟨dy, _, _, _, k1, _⟩ := id hc
  exact ⟨a, dx, _, rfl, h1, ⟨a, c, G, F, F', rfl, rfl, ha, hc, rfl⟩, .inl ⟨c, CC, dy, _, rfl, k1, T.fC⟩⟩
theorem dc_uniq {H : Hp} {x y : V} {b b' : Bool} (h : DC K CC x y b H) (h' : DC K CC x y b' H) : b = b' := by
  obtain ⟨_, _, _, _, _, ⟨a, c, G, F, F', rfl, rfl, h1, h2, rfl⟩, _⟩ := h
  obtain ⟨_, _, _, _, _, ⟨a', c', G', F2, F2', e1, e2, k1, k2, rfl⟩, _⟩ := h'
  injection e1 with e1; injection e2 with e2
  subst e1 e2
  rw [h1.uniq k1, h2.uniq k2]
theorem in_cuts (T : TX K mg CP CC CT) {H : Hp} {a o : Addr} {G F : List Str} {us : List V} {Fs : List (List Str)} {Q : VK} (ha : CutAt CC H a G F) (ho : H o = some (.tup us)) (hc : CutsAt CC H us G Fs) (q : Q (.bl (decide (F ∈ Fs))) H) : rInB K (DC K CC) false (.ref a) (.ref o) H Q := by
  refine ⟨o, us, Fs.map (fun F' => decide (F' = F)), rfl, .of ho, fun z b b' h h' => dc_uniq h h', ?_, ?_⟩
  · clear q ho
    induction hc with
    | nil => rfl
    | cons r _ ih =>
      obtain ⟨c, rfl, hc⟩ := r
      exact ⟨_, _, rfl, dc_of T hc ha, ih⟩
  · rw [if_neg (by decide)]
    have : (Fs.map fun F' => decide (F' = F)).any id = decide (F ∈ Fs) := by
      rw [Bool.eq_iff_iff, List.any_map, List.any_eq_true, decide_eq_true_iff]
      constructor
      · rintro ⟨F', h, e⟩
        rw [← of_decide_eq_true e]; exact h
      · exact fun h => ⟨F, h, decide_eq_true rfl⟩
    rw [this]; exact q
theorem eq_cuts (T : TX K mg CP CC CT) {H : Hp} {o o' : Addr} {G : List Str} {us us' : List V} {Fs Fs' : List (List Str)} {Q : VK} (ho : H o = some (.tup us)) (ho' : H o' = some (.tup us')) (hc : CutsAt CC H us G Fs) (hc' : CutsAt CC H us' G Fs') (q : Q (.bl (decide (Fs = Fs'))) H) : rRcB (DTupB K (DC K CC)) (.ref o) (.ref o') H Q := by
  refine ⟨_, ⟨o, o', us, us', (Fs.zip Fs').map (fun p => decide (p.1 = p.2)), rfl, rfl, .of ho, .of ho', ?_, rfl⟩, ?_⟩
  · clear q ho ho'
    induction hc generalizing us' Fs' with
    | nil => cases hc' <;> rfl
    | cons r _ ih =>
      cases hc' with
      | nil => rfl
      | cons r' h' =>
        obtain ⟨c, rfl, hc⟩ := r
        obtain ⟨c', rfl, hc'⟩ := r'
        exact ⟨_, _, rfl, dc_of T hc hc', ih h'⟩
  · have : (((Fs.zip Fs').map fun p => decide (p.1 = p.2)).all id && us.length == us'.length) = decide (Fs = Fs') := by
      have l1 : us.length = Fs.length := hc.length.symm
      have l2 : us'.length = Fs'.length := hc'.length.symm
      rw [l1, l2]
      clear l1 l2 q ho ho' hc hc'
      rw [Bool.eq_iff_iff, decide_eq_true_iff, Bool.and_eq_true, List.all_map, beq_iff_eq]
      constructor
      · rintro ⟨h, l⟩
        induction Fs generalizing Fs' with
        | nil => cases Fs' with
          | nil => rfl
          | cons _ _ => simp at l
        | cons x r ih => cases Fs' with
          | nil => simp at l
          | cons y s =>
            simp at h l
            rw [h.1, ih (Fs' := s) (by simpa using h.2) l]
      · rintro rfl
        refine ⟨?_, rfl⟩
        rw [List.all_eq_true]
        intro p hp
        induction Fs with
        | nil => simp at hp
        | cons x r ih =>
          rcases List.mem_cons.mp hp with e | k
          · subst e; simp
          · exact ih k
    rw [this]; exact q
def spTreeP (CC CT : Addr) : Sp := fun vs H Q _ => ∃ a G Fs, vs = [.ref a] ∧ TreeAt CC CT H a G Fs ∧ ∀ t, TupS H t G → Q (.ref t) H
theorem sc_Tree_hosts : FnScope ["self"] ["self"] (fnScope (inClass (top 50) 4)) := ⟨rfl, rfl, rfl, by decide +kernel, rfl, by decide +kernel, by decide +kernel⟩
theorem prp_hostsT (T : TX K mg CP CC CT) : Prp P w K mg base 1 CT "hosts" (spTreeP CC CT) := by
  refine prp_of T.iT.cl T.p_hostsT sc_Tree_hosts (fun _ _ _ _ _ _ us hl => match us, hl with | [_], _ => rfl) (fun vs H Q E h => by obtain ⟨_, _, _, rfl, _⟩ := h; rfl) fun f cdv A outer s H vs Q E hr h => ?_
  refine ⟨_, (pss_one (ps_ret (pe_fld (pv 0) rfl))), ?_⟩
  obtain ⟨a, G, Fs, rfl, ⟨dx, n, o, us, h1, h2, h3, h4, r⟩, q⟩ := h
  exact ⟨_, rfl, a, CT, dx, _, _, rfl, h1, T.iT.cl, T.nT _ (by decide), by rfl, q _ h2⟩
def spTreeC (CC CT : Addr) : Sp := fun vs H Q _ => ∃ a G Fs, vs = [.ref a] ∧ TreeAt CC CT H a G Fs ∧ ∀ t us, H t = some (.tup us) → CutsAt CC H us G Fs → Q (.ref t) H
theorem sc_Tree_cuts : FnScope ["self"] ["self"] (fnScope (inClass (top 50) 5)) := ⟨rfl, rfl, rfl, by decide +kernel, rfl, by decide +kernel, by decide +kernel⟩
theorem prp_cuts (T : TX K mg CP CC CT) : Prp P w K mg base 1 CT "cuts" (spTreeC CC CT) := by
  refine prp_of T.iT.cl T.p_cuts sc_Tree_cuts (fun _ _ _ _ _ _ us hl => match us, hl with | [_], _ => rfl) (fun vs H Q E h => by obtain ⟨_, _, _, rfl, _⟩ := h; rfl) fun f cdv A outer s H vs Q E hr h => ?_
  refine ⟨_, (pss_one (ps_ret (pe_fld (pv 0) rfl))), ?_⟩
  obtain ⟨a, G, Fs, rfl, ⟨dx, n, o, us, h1, h2, h3, h4, r⟩, q⟩ := h
  exact ⟨_, rfl, a, CT, dx, _, _, rfl, h1, T.iT.cl, T.nT _ (by decide), by rfl, q _ _ h3 h4⟩
def spNeedHost (CC CT : Addr) : Sp := fun vs H Q _ => ∃ a x G Fs, vs = [.ref a, .str x] ∧ TreeAt CC CT H a G Fs ∧ x ∈ G ∧ ∀ H', Ext H H' → Q .non H'
theorem sc_Tree_need_host : FnScope ["self", "name"] ["self", "name"] (fnScope (inClass (top 50) 7)) := ⟨rfl, rfl, rfl, by decide +kernel, rfl, by decide +kernel, by decide +kernel⟩
theorem met_need_host (T : TX K mg CP CC CT) : Met P w K mg base 2 CT "need_host" (spNeedHost CC CT) [] := by
  refine met_of T.iT.cl T.m_need_host sc_Tree_need_host (fun _ _ _ _ _ _ us hl => match us, hl with | [_, _], _ => rfl) (fun vs H Q E h => by obtain ⟨_, _, _, _, rfl, _⟩ := h; rfl) fun f cdv A outer s H vs Q E hr h => ?_
  refine ⟨_, (pss_one (ps_if (PW.pt (pw_or (pt_not (pt_val (C8.pe_c (cal_is_name T) hr (by decide) rfl (pa_cons (pv 1) pa_nil)))) (pw_or1 (pt_cmpR (opNotIn K) (pv 1) (pe_fld (pv 0) rfl) mk)))) pss_never pss_nil)), ?_⟩
  obtain ⟨a, x, G, Fs, rfl, ⟨dx, n, o, us, h1, h2, h3, h4, h5, h6, h7, h8⟩, hx, q⟩ := h
  dsimp only [tNext, tRet, tCB, tCons, tNil, tC, tSeq, tIfS, tTest, tNot, tOr, tAnd, tB, tAndV, tOrV, tNotV, tIf, tDrop, tOp, tChain, rI0, tTup, tLst, tCall, tMeth, tMake, tProp, tFld, sFld, tAsg, gName, tYes, List.map, tNever, tPar, cxK, cxw, cxnK, cxnw, List.singleton_append, List.append_nil, List.cons_append, List.nil_append]
  refine ⟨_, rfl, x, rfl, h7.g x hx, fun H1 e1 => ⟨true, rfl, iteF ?_⟩⟩
  refine ⟨_, rfl, _, rfl, a, CT, dx, _, _, rfl, e1 _ _ h1, T.iT.cl, T.nT _ (by decide), by rfl, notIn_seq (TupS.sq (e1 _ _ h2)) ?_⟩
  rw [decide_eq_true hx]
  exact ⟨false, rfl, iteF (q _ e1)⟩
def spNeedSame (CC CT : Addr) : Sp := fun vs H Q _ => ∃ a c G Fs Fs', vs = [.ref a, .ref c] ∧ TreeAt CC CT H a G Fs ∧ TreeAt CC CT H c G Fs' ∧ ∀ H', Ext H H' → Q .non H'
theorem sc_need_same : FnScope ["one", "other"] ["one", "other"] (fnScope (top 49)) := ⟨rfl, rfl, rfl, by decide +kernel, rfl, by decide +kernel, by decide +kernel⟩
theorem cal_need_same (T : TX K mg CP CC CT) : Cal P w K mg base 3 "need_same" (spNeedSame CC CT) [] := by
  refine cal_of T.d_need_same sc_need_same (fun _ _ _ _ _ _ us hl => match us, hl with | [_, _], _ => rfl) (fun vs H Q E h => by obtain ⟨_, _, _, _, _, rfl, _⟩ := h; rfl) fun f cdv A outer s H vs Q E hr h => ?_
  refine ⟨_, (pss_one (ps_if (PW.pt (pw_or (pt_not (pt_val (pe_callB call_isi (by rfl) (T.nb "isinstance" (by decide)) (by decide +kernel) (pa_cons (pv 1) (pa_cons (pe_glob (v := .ref CT) rfl T.c_Tree rfl) pa_nil))))) (pw_or1 (pt_cmpR (op_neDt (α := Tup Str) (ltd hr (by decide))) (pe_pr (prp_hostsT T) hr (by decide) (pv 0)) (pe_pr (prp_hostsT T) hr (by decide) (pv 1)) mk)))) pss_never pss_nil)), ?_⟩
  obtain ⟨a, c, G, Fs, Fs', rfl, ha, hc, q⟩ := h
  obtain ⟨dx, n, o, us, h1, h2, h3, h4, h5, h6, h7, h8⟩ := id ha
  obtain ⟨dy, n', o', us', k1, k2, k3, k4, k5, k6, k7, k8⟩ := id hc
  dsimp only [tNext, tRet, tCB, tCons, tNil, tC, tSeq, tIfS, tTest, tNot, tOr, tAnd, tB, tAndV, tOrV, tNotV, tIf, tDrop, tOp, tChain, rI0, tTup, tLst, tCall, tMeth, tMake, tProp, tFld, sFld, tAsg, gName, tYes, List.map, tNever, tPar, cxK, cxw, cxnK, cxnw, List.singleton_append, List.append_nil, List.cons_append, List.nil_append]
  refine ⟨_, rfl, _, _, _, _, true, rfl, .own CT, .base (.ins k1 T.iT.cl T.iT.ha T.iT.hn T.iT.htk T.iT.hm), T.iT.me, true, rfl, iteF ?_⟩
  refine ⟨_, rfl, a, dx, _, rfl, h1, a, G, Fs, rfl, ha, fun t ht => ?_⟩
  refine ⟨_, rfl, c, dy, _, rfl, k1, c, G, Fs', rfl, hc, fun t' ht' => ?_⟩
  refine ⟨Tup.mk G, Tup.mk G, dp_tup (.of ht), dp_tup (.of ht'), ?_⟩
  rw [if_pos rfl, tupEq, decide_eq_true rfl]
  exact ⟨false, rfl, iteF (q _ Ext.rfl')⟩
/-- is this cut one of the tree's -/
def spHas (CC CT : Addr) : Sp := fun vs H Q _ => ∃ a c G F Fs, vs = [.ref a, .ref c] ∧ TreeAt CC CT H a G Fs ∧ CutAt CC H c G F ∧ ∀ H', Ext H H' → Q (.bl (decide (F ∈ Fs))) H'
theorem sc_Tree___contains__ : FnScope ["self", "thing"] ["self", "thing"] (fnScope (inClass (top 50) 14)) := ⟨rfl, rfl, rfl, by decide +kernel, rfl, by decide +kernel, by decide +kernel⟩
theorem met_hasT (T : TX K mg CP CC CT) : Met P w K mg base 5 CT "__contains__" (spHas CC CT) [] := by
  refine met_of T.iT.cl T.m_hasT sc_Tree___contains__ (fun _ _ _ _ _ _ us hl => match us, hl with | [_, _], _ => rfl) (fun vs H Q E h => by obtain ⟨_, _, _, _, _, rfl, _⟩ := h; rfl) fun f cdv A outer s H vs Q E hr h => ?_
  refine ⟨_, (pss_one (ps_ret (pe_and (pe_callB call_isi (by rfl) (T.nb "isinstance" (by decide)) (by decide +kernel) (pa_cons (pv 1) (pa_cons (pe_glob (v := .ref CC) rfl T.c_Cut rfl) pa_nil))) (pe_one (pe_cmpR (op_in_cut K (met_eqC T) hr (by decide)) (pv 1) (pe_fld (pv 0) rfl) mk))))), ?_⟩
  obtain ⟨a, c, G, F, Fs, rfl, ⟨dx, n, o, us, h1, h2, h3, h4, h5, h6, h7, h8⟩, hc, q⟩ := h
  obtain ⟨dy, _, _, _, k1, _⟩ := id hc
  dsimp only [tNext, tRet, tCB, tCons, tNil, tC, tSeq, tIfS, tTest, tNot, tOr, tAnd, tB, tAndV, tOrV, tNotV, tIf, tDrop, tOp, tChain, rI0, tTup, tLst, tCall, tMeth, tMake, tProp, tFld, sFld, tAsg, gName, tYes, List.map, tNever, tPar, cxK, cxw, cxnK, cxnw, List.singleton_append, List.append_nil, List.cons_append, List.nil_append]
  refine ⟨_, rfl, _, _, _, _, true, rfl, .own CC, .base (.ins k1 T.iC.cl T.iC.ha T.iC.hn T.iC.htk T.iC.hm), T.iC.me, true, rfl, iteT ?_⟩
  exact ⟨_, rfl, _, rfl, a, CT, dx, _, _, rfl, h1, T.iT.cl, T.nT _ (by decide), by rfl, in_cuts T hc h3 h4 (q _ Ext.rfl')⟩
end
end G
end

section
set_option Elab.async false
set_option linter.all false
set_option maxRecDepth 100000
set_option maxHeartbeats 1000000
/-! trees: compared, both -/
namespace G
open PySem PySem.Spec PyProof.Rows L2
open C8 (fnScope fnBody fnArgs Cal Met Mak)
open SkE (call_str_str)
open StX (pa_star tStar)
open PySem.W (Tup)
section
variable {P : Program} {w : World} {K : PySem.W.Frag} {mg : Str → Option Value} {base : Heap} {CP CC CT : Addr}
theorem tree_made {H : Hp} {h t x dx : Addr} {l : List Str} {rs : List V} {G : List Str} {Fs : List (List Str)} {R : Hp → Prop} (hx : H x = none) (hd : H dx = none) (hne : dx ≠ x) (hh : Sq K H h (vS l)) (hp : G.Perm l) (hG : HostsOk G) (ht : Sq K H t rs) (hc : CutsAt CC H rs G Fs) (h40 : Fs.length ≤ 40) (hcmp : KM.AllCmp G Fs)
    (k : ∀ H' Us, Ext H H' → TreeAt CC CT H' x G Us → (∀ F, F ∈ Us ↔ F ∈ Fs) → R H') : spTreeI K CC CT ([V.ref x, V.ref h, V.ref t]) (upd (upd H dx (.own x)) x (.ins CT dx [])) (fun v H2 => v = .non ∧ R H2) E0 := by
  have e : Ext H (upd (upd H dx (.own x)) x (.ins CT dx [])) := fun z o h => by rw [upd_ne (ne_of_none h hx), upd_ne (ne_of_none h hd)]; exact h
  exact ⟨x, dx, h, t, l, rs, G, Fs, rfl, upd_same, hh.ext e, hp, hG, ht.ext e, hc.ext e, h40, hcmp, fun H' Us eb ta m => ⟨rfl, k H' Us (fun a o h => eb a o (ne_of_none h hx) (e a o h)) ta m⟩⟩
theorem cuts_map {H : Hp} {us acc : List V} {G : List Str} {Fs : List (List Str)} {f : List Str → V} (h : CutsAt CC H us G Fs) (k : All2 (fun x y => ∃ a F, x = .ref a ∧ CutAt CC H a G F ∧ y = f F) us acc) : acc = Fs.map f := by
  induction h generalizing acc with
  | nil => cases k; rfl
  | cons r _ ih =>
    cases k with
    | cons r' k' =>
      obtain ⟨a, rfl, ha⟩ := r
      obtain ⟨a', F', e, ha', rfl⟩ := r'
      injection e with e
      subst e
      rw [ha.uniq ha', ih k']; rfl
def sub2 (Fs Fs' : List (List Str)) : Bool := Fs.all fun F => decide (F ∈ Fs')
theorem tree40 {CC CT : Addr} {H : Hp} {us : List V} {G : List Str} {Fs : List (List Str)} (h : CutsAt CC H us G Fs) (h40 : Fs.length ≤ 40) : us.length ≤ sizeLine := by rw [← h.length]; exact Nat.le_trans h40 (by decide)
def spLe (CC CT : Addr) (up : Bool) : Sp := fun vs H Q _ => ∃ a c G Fs Fs', vs = [.ref a, .ref c] ∧ TreeAt CC CT H a G Fs ∧ TreeAt CC CT H c G Fs' ∧ ∀ H', Ext H H' → Q (.bl (if up then sub2 Fs' Fs else sub2 Fs Fs')) H'
theorem sc_Tree___le__ : FnScope ["self", "other", "cut"] ["self", "other"] (fnScope (inClass (top 50) 18)) := ⟨rfl, rfl, rfl, by decide +kernel, rfl, by decide +kernel, by decide +kernel⟩
theorem met_leT (T : TX K mg CP CC CT) : Met P w K mg base 5 CT "__le__" (spLe CC CT false) [] := by
  refine met_of T.iT.cl T.m_leT sc_Tree___le__ (fun _ _ _ _ _ _ us hl => match us, hl with | [_, _], _ => rfl) (fun vs H Q E h => by obtain ⟨_, _, _, _, _, rfl, _⟩ := h; rfl) fun f cdv A outer s H vs Q E hr h => ?_
  refine ⟨_, (pss_cons (ps_expr (C8.pe_c (cal_need_same T) hr (by decide) rfl (pa_cons (pv 0) (pa_cons (pv 1) pa_nil))))
      (pss_one (ps_ret (pe_callB (cr_all rfl) (by rfl) (T.nb "all" (by decide)) (by decide +kernel) (pa_cons (pe_lc (own := [("cut", 2)]) (tt := tYes) rfl sc_Tree___le__.nd (pi_seq (pe_fld (pv 0) rfl)) (blkOk_by (N := ["self", "other", "cut"]) (sc := fnScope (inClass (top 50) 18)) (own := [("cut", 2)]) (by decide +kernel)) (fun _ _ _ _ _ => (pg_name (i := 2) sc_Tree___le__.nd rfl (Or.inl rfl))) (fun _ _ _ _ _ => pts_nil) (fun _ _ _ _ _ => (pe_cmpR (op_in_cut K (met_eqC T) hr (by decide)) (pv 2) (pe_pr (prp_cuts T) hr (by decide) (pv 1)) mk))) pa_nil))))), ?_⟩
  obtain ⟨a, c, G, Fs, Fs', rfl, ha, hc, q⟩ := h
  dsimp only [tNext, tRet, tCB, tCons, tNil, tC, tSeq, tIfS, tTest, tNot, tOr, tAnd, tB, tAndV, tOrV, tNotV, tIf, tDrop, tOp, tChain, rI0, tTup, tLst, tCall, tMeth, tMake, tProp, tFld, sFld, tAsg, gName, tYes, List.map, tNever, tPar, cxK, cxw, cxnK, cxnw, List.singleton_append, List.append_nil, List.cons_append, List.nil_append]
  refine ⟨_, rfl, _, rfl, a, c, G, Fs, Fs', rfl, ha, hc, fun H1 e1 => ?_⟩
  have ha := ha.ext e1
  have hc := hc.ext e1
  obtain ⟨dx, n, o, us, h1, h2, h3, h4, h5, h6, h7, h8⟩ := id ha
  obtain ⟨dy, n', o', us', k1, k2, k3, k4, k5, k6, k7, k8⟩ := id hc
  refine tlc_of ?_
  refine ⟨_, rfl, a, CT, dx, _, _, rfl, h1, T.iT.cl, T.nT _ (by decide), by rfl, ?_⟩
  refine iseq_of (Sq.tup h3) fun J st ov hst => ?_
  refine lc_rel ov (fun _ x y _ => ∃ b F, x = .ref b ∧ CutAt CC H1 b G F ∧ y = .bl (decide (F ∈ Fs'))) hst (tree40 (CT := CT) h4 h8) (fun _ _ _ _ _ _ _ _ h => h) (fun D l x H2 M hx hD hl e hM => ?_) fun D H2 acc hD e2 hl hR => ?_
  · obtain ⟨F, hF, b, rfl, hb⟩ := All2.mem_l h4 hx
    exact ⟨_, rfl, _, rfl, c, dy, _, rfl, e _ _ k1, c, G, Fs', rfl, hc.ext e, fun t us ht hus => in_cuts T (hb.ext e) ht hus (hM _ _ Ext.rfl' ⟨b, F, rfl, hb, rfl⟩)⟩
  · refine ⟨D, Fs.map fun F => decide (F ∈ Fs'), rfl, SqL.of (by rw [hl, cuts_map (f := fun F => V.bl (decide (F ∈ Fs'))) h4 hR, List.map_map]; rfl), ?_⟩
    rw [List.all_map]
    exact q _ (e1.trans e2)
theorem sc_Tree___ge__ : FnScope ["self", "other", "cut"] ["self", "other"] (fnScope (inClass (top 50) 20)) := ⟨rfl, rfl, rfl, by decide +kernel, rfl, by decide +kernel, by decide +kernel⟩
theorem met_geT (T : TX K mg CP CC CT) : Met P w K mg base 5 CT "__ge__" (spLe CC CT true) [] := by
  refine met_of T.iT.cl T.m_geT sc_Tree___ge__ (fun _ _ _ _ _ _ us hl => match us, hl with | [_, _], _ => rfl) (fun vs H Q E h => by obtain ⟨_, _, _, _, _, rfl, _⟩ := h; rfl) fun f cdv A outer s H vs Q E hr h => ?_
  refine ⟨_, (pss_cons (ps_expr (C8.pe_c (cal_need_same T) hr (by decide) rfl (pa_cons (pv 0) (pa_cons (pv 1) pa_nil))))
      (pss_one (ps_ret (pe_callB (cr_all rfl) (by rfl) (T.nb "all" (by decide)) (by decide +kernel) (pa_cons (pe_lc (own := [("cut", 2)]) (tt := tYes) rfl sc_Tree___ge__.nd (pi_seq (pe_pr (prp_cuts T) hr (by decide) (pv 1))) (blkOk_by (N := ["self", "other", "cut"]) (sc := fnScope (inClass (top 50) 20)) (own := [("cut", 2)]) (by decide +kernel)) (fun _ _ _ _ _ => (pg_name (i := 2) sc_Tree___ge__.nd rfl (Or.inl rfl))) (fun _ _ _ _ _ => pts_nil) (fun _ _ _ _ _ => (pe_cmpR (op_in_cut K (met_eqC T) hr (by decide)) (pv 2) (pe_fldK K (pv 0) rfl) mk))) pa_nil))))), ?_⟩
  obtain ⟨a, c, G, Fs, Fs', rfl, ha, hc, q⟩ := h
  dsimp only [tNext, tRet, tCB, tCons, tNil, tC, tSeq, tIfS, tTest, tNot, tOr, tAnd, tB, tAndV, tOrV, tNotV, tIf, tDrop, tOp, tChain, rI0, tTup, tLst, tCall, tMeth, tMake, tProp, tFld, sFld, tAsg, gName, tYes, List.map, tNever, tPar, cxK, cxw, cxnK, cxnw, List.singleton_append, List.append_nil, List.cons_append, List.nil_append]
  refine ⟨_, rfl, _, rfl, a, c, G, Fs, Fs', rfl, ha, hc, fun H1 e1 => ?_⟩
  have ha := ha.ext e1
  have hc := hc.ext e1
  obtain ⟨dx, n, o, us, h1, h2, h3, h4, h5, h6, h7, h8⟩ := id ha
  obtain ⟨dy, n', o', us', k1, k2, k3, k4, k5, k6, k7, k8⟩ := id hc
  refine tlc_of ?_
  refine ⟨_, rfl, c, dy, _, rfl, k1, c, G, Fs', rfl, hc, fun t us1 ht hus => ?_⟩
  refine iseq_of (Sq.tup ht) fun J st ov hst => ?_
  refine lc_rel ov (fun _ x y _ => ∃ b F, x = .ref b ∧ CutAt CC H1 b G F ∧ y = .bl (decide (F ∈ Fs))) hst (tree40 (CT := CT) hus k8) (fun _ _ _ _ _ _ _ _ h => h) (fun D l x H2 M hx hD hl e hM => ?_) fun D H2 acc hD e2 hl hR => ?_
  · obtain ⟨F, hF, b, rfl, hb⟩ := All2.mem_l hus hx
    exact ⟨_, rfl, _, rfl, a, CT, dx, _, _, rfl, e _ _ h1, T.iT.cl, T.nT _ (by decide), by rfl, in_cuts T (hb.ext e) (e _ _ h3) (h4.ext e) (hM _ _ Ext.rfl' ⟨b, F, rfl, hb, rfl⟩)⟩
  · refine ⟨D, Fs'.map fun F => decide (F ∈ Fs), rfl, SqL.of (by rw [hl, cuts_map (f := fun F => V.bl (decide (F ∈ Fs))) hus hR, List.map_map]; rfl), ?_⟩
    rw [List.all_map]
    exact q _ (e1.trans e2)
def REqT (CC CT : Addr) : V → V → Bool → Hp → Prop := fun x y b H => ∃ a c G Fs Fs', x = .ref a ∧ y = .ref c ∧ TreeAt CC CT H a G Fs ∧ TreeAt CC CT H c G Fs' ∧ b = decide (Fs = Fs')
theorem sc_Tree___eq__ : FnScope ["self", "other"] ["self", "other"] (fnScope (inClass (top 50) 22)) := ⟨rfl, rfl, rfl, by decide +kernel, rfl, by decide +kernel, by decide +kernel⟩
theorem met_eqT (T : TX K mg CP CC CT) : Met P w K mg base 5 CT "__eq__" (spB (REqT CC CT)) [] := by
  refine met_of T.iT.cl T.m_eqT sc_Tree___eq__ (fun _ _ _ _ _ _ us hl => match us, hl with | [_, _], _ => rfl) (fun vs H Q E h => by obtain ⟨_, _, _, rfl, _⟩ := h; rfl) fun f cdv A outer s H vs Q E hr h => ?_
  refine ⟨_, (pss_one (ps_ret (pe_and (pe_callB call_isi (by rfl) (T.nb "isinstance" (by decide)) (by decide +kernel) (pa_cons (pv 1) (pa_cons (pe_glob (v := .ref CT) rfl T.c_Tree rfl) pa_nil))) (pe_and (pe_cmpR (op_eqDt (α := Tup Str) (ltd hr (by decide))) (pe_fld (pv 0) rfl) (pe_pr (prp_hostsT T) hr (by decide) (pv 1)) mk) (pe_one (pe_cmpR (op_eq_cuts K (met_eqC T) hr (by decide)) (pe_fld (pv 0) rfl) (pe_pr (prp_cuts T) hr (by decide) (pv 1)) mk)))))), ?_⟩
  obtain ⟨x, y, b, rfl, ⟨a, c, G, Fs, Fs', rfl, rfl, ha, hc, rfl⟩, q⟩ := h
  obtain ⟨dx, n, o, us, h1, h2, h3, h4, h5, h6, h7, h8⟩ := id ha
  obtain ⟨dy, n', o', us', k1, k2, k3, k4, k5, k6, k7, k8⟩ := id hc
  dsimp only [tNext, tRet, tCB, tCons, tNil, tC, tSeq, tIfS, tTest, tNot, tOr, tAnd, tB, tAndV, tOrV, tNotV, tIf, tDrop, tOp, tChain, rI0, tTup, tLst, tCall, tMeth, tMake, tProp, tFld, sFld, tAsg, gName, tYes, List.map, tNever, tPar, cxK, cxw, cxnK, cxnw, List.singleton_append, List.append_nil, List.cons_append, List.nil_append]
  refine ⟨_, rfl, _, _, _, _, true, rfl, .own CT, .base (.ins k1 T.iT.cl T.iT.ha T.iT.hn T.iT.htk T.iT.hm), T.iT.me, true, rfl, iteT ?_⟩
  refine ⟨_, rfl, a, CT, dx, _, _, rfl, h1, T.iT.cl, T.nT _ (by decide), by rfl, _, rfl, c, dy, _, rfl, k1, c, G, Fs', rfl, hc, fun t ht => ?_⟩
  refine ⟨Tup.mk G, Tup.mk G, dp_tup (.of h2), dp_tup (.of ht), ?_⟩
  rw [if_neg (by decide), tupEq, decide_eq_true rfl]
  refine ⟨true, rfl, iteT ?_⟩
  exact ⟨_, rfl, a, CT, dx, _, _, rfl, h1, T.iT.cl, T.nT _ (by decide), by rfl, _, rfl, c, dy, _, rfl, k1, c, G, Fs', rfl, hc, fun t us1 ht hus => eq_cuts T h3 ht h4 hus q⟩
/-- the cuts of both -/
noncomputable def keepC (CC : Addr) (H : Hp) (G : List Str) (Fs' : List (List Str)) : V → Bool := fun x => @decide (∃ a F, x = .ref a ∧ CutAt CC H a G F ∧ F ∈ Fs') (Classical.propDecidable _)
theorem keepC_of {H : Hp} {a : Addr} {G F : List Str} {Fs' : List (List Str)} (h : CutAt CC H a G F) : keepC CC H G Fs' (.ref a) = decide (F ∈ Fs') := by
  by_cases m : F ∈ Fs'
  · rw [decide_eq_true m]
    exact @decide_eq_true _ (Classical.propDecidable _) ⟨a, F, rfl, h, m⟩
  · rw [decide_eq_false m]
    refine @decide_eq_false _ (Classical.propDecidable _) fun z => m ?_
    obtain ⟨a', F', e, h', k⟩ := z
    injection e with e
    subst e
    rw [h.uniq h']; exact k
theorem keepC_all {H : Hp} {us : List V} {G : List Str} {Fs Fs' : List (List Str)} (h : CutsAt CC H us G Fs) : CutsAt CC H (us.filter (keepC CC H G Fs')) G (Fs.filter fun F => decide (F ∈ Fs')) := by
  induction h with
  | nil => exact .nil
  | cons r _ ih =>
    rename_i x F xs Fs0 _
    obtain ⟨a, rfl, ha⟩ := r
    by_cases m : F ∈ Fs'
    · rw [List.filter_cons_of_pos (by rw [keepC_of ha]; exact decide_eq_true m), List.filter_cons_of_pos (p := fun F => decide (F ∈ Fs')) (decide_eq_true m)]
      exact .cons ⟨a, rfl, ha⟩ ih
    · rw [List.filter_cons_of_neg (by rw [keepC_of ha]; simpa using m), List.filter_cons_of_neg (p := fun F => decide (F ∈ Fs')) (by simpa using m)]
      exact ih
def spAndT (CC CT : Addr) : Sp := fun vs H Q _ => ∃ a c G Fs Fs', vs = [.ref a, .ref c] ∧ TreeAt CC CT H a G Fs ∧ TreeAt CC CT H c G Fs' ∧ ∀ r H' Us, Ext H H' → H r = none → TreeAt CC CT H' r G Us → (∀ F, F ∈ Us ↔ F ∈ Fs ∧ F ∈ Fs') → Q (.ref r) H'
theorem sc_Tree___and__ : FnScope ["self", "other", "cut"] ["self", "other"] (fnScope (inClass (top 50) 15)) := ⟨rfl, rfl, rfl, by decide +kernel, rfl, by decide +kernel, by decide +kernel⟩
theorem met_andT (T : TX K mg CP CC CT) : Met P w K mg base 8 CT "__and__" (spAndT CC CT) [] := by
  refine met_of T.iT.cl T.m_andT sc_Tree___and__ (fun _ _ _ _ _ _ us hl => match us, hl with | [_, _], _ => rfl) (fun vs H Q E h => by obtain ⟨_, _, _, _, _, rfl, _⟩ := h; rfl) fun f cdv A outer s H vs Q E hr h => ?_
  refine ⟨_, (pss_cons (ps_expr (C8.pe_c (cal_need_same T) hr (by decide) rfl (pa_cons (pv 0) (pa_cons (pv 1) pa_nil))))
      (pss_one (ps_ret (C8.pe_mk (mak_Trees T).1 hr (by decide) rfl (pa_cons (pe_fld (pv 0) rfl) (pa_cons (pe_lc (own := [("cut", 2)]) rfl sc_Tree___and__.nd (pi_seq (pe_fld (pv 0) rfl)) (blkOk_by (N := ["self", "other", "cut"]) (sc := fnScope (inClass (top 50) 15)) (own := [("cut", 2)]) (by decide +kernel)) (fun _ _ _ _ _ => (pg_name (i := 2) sc_Tree___and__.nd rfl (Or.inl rfl))) (fun _ _ _ _ _ => (pts_one (pt_cmpR (op_in_cut K (met_eqC T) hr (by decide)) (pv 2) (pe_pr (prp_cuts T) hr (by decide) (pv 1)) mk))) (fun _ _ _ _ _ => (pv 2))) pa_nil)))))), ?_⟩
  obtain ⟨a, c, G, Fs, Fs', rfl, ha, hc, q⟩ := h
  dsimp only [tNext, tRet, tCB, tCons, tNil, tC, tSeq, tIfS, tTest, tNot, tOr, tAnd, tB, tAndV, tOrV, tNotV, tIf, tDrop, tOp, tChain, rI0, tTup, tLst, tCall, tMeth, tMake, tProp, tFld, sFld, tAsg, gName, tYes, List.map, tNever, tPar, cxK, cxw, cxnK, cxnw, List.singleton_append, List.append_nil, List.cons_append, List.nil_append]
  refine ⟨_, rfl, _, rfl, a, c, G, Fs, Fs', rfl, ha, hc, fun H1 e1 => ?_⟩
  have ha := ha.ext e1
  have hc := hc.ext e1
  obtain ⟨dx, n, o, us, h1, h2, h3, h4, h5, h6, h7, h8⟩ := id ha
  obtain ⟨dy, n', o', us', k1, k2, k3, k4, k5, k6, k7, k8⟩ := id hc
  refine ⟨_, rfl, a, CT, dx, _, _, rfl, h1, T.iT.cl, T.nT _ (by decide), by rfl, ?_⟩
  refine tlc_of ?_
  refine ⟨_, rfl, a, CT, dx, _, _, rfl, h1, T.iT.cl, T.nT _ (by decide), by rfl, ?_⟩
  refine iseq_of (Sq.tup h3) fun J st ov hst => ?_
  refine lc_fil ov (keepC CC H1 G Fs') (show 2 < 3 by decide) hst (tree40 (CT := CT) h4 h8) (fun x H2 M hx e hM => ?_) fun D H2 hD e2 hl => ?_
  · obtain ⟨F, hF, b, rfl, hb⟩ := All2.mem_l h4 hx
    rw [keepC_of hb] at hM
    exact ⟨_, rfl, _, rfl, c, dy, _, rfl, e _ _ k1, c, G, Fs', rfl, hc.ext e, fun t us ht hus => in_cuts T (hb.ext e) ht hus ⟨_, rfl, hM _ Ext.rfl'⟩⟩
  · intro x dx' fx fd nx
    have cs := (keepC_all (Fs' := Fs') h4).ext e2
    refine tree_made (K := K) (CC := CC) (CT := CT) fx fd nx (TupS.sq (e2 _ _ h2)) (.refl _) h7 (.lst hl) cs (Nat.le_trans (List.length_filter_le _ _) h8) (fun F1 m1 F2 m2 => h6 F1 (List.mem_filter.mp m1).1 F2 (List.mem_filter.mp m2).1) fun H3 Us e3 ta m => ?_
    refine q x H3 Us ((e1.trans e2).trans e3) (extFree (e1.trans e2) fx) ta fun F => ?_
    rw [m F, List.mem_filter, decide_eq_true_iff]
end
end G
end

section
set_option Elab.async false
set_option linter.all false
set_option maxRecDepth 100000
set_option maxHeartbeats 1000000
/-! trees: fewer hosts; the answer for four -/
namespace G
open PySem PySem.Spec PyProof.Rows L2
open C8 (fnScope fnBody fnArgs Cal Met Mak)
open SkE (call_str_str)
open StX (pa_star tStar)
open PySem.W (Tup)
/-- as these hosts see them -/
def Agree (S F F1 : List Str) : Prop := (∀ x ∈ S, x ∈ F1 ↔ x ∈ F) ∨ (∀ x ∈ S, x ∈ F1 ↔ x ∉ F)
theorem two_le {l : List Str} {a b : Str} (ha : a ∈ l) (hb : b ∈ l) (h : a ≠ b) : 2 ≤ l.length := by
  match l, ha, hb with
  | [x], ha, hb => rw [List.mem_singleton.mp ha, List.mem_singleton.mp hb] at h; exact absurd rfl h
  | x :: y :: r, _, _ => simp
def Big (G F S : List Str) : Prop := 2 ≤ ((nearOf G F).filter fun x => decide (x ∈ S)).length ∧ 2 ≤ (F.filter fun x => decide (x ∈ S)).length
theorem rest_list {CC : Addr} {H : Hp} {G S : List Str} (hS : ∀ x ∈ S, x ∈ G) {Fs : List (List Str)} {acc : List V}
    (h : All2 (fun F y => (y = .non ∧ ¬ Big G F S) ∨ ∃ c F1, y = .ref c ∧ CutAt CC H c S F1 ∧ Agree S F F1) Fs acc) :
    ∃ Us, CutsAt CC H (acc.filter fun y => !decide (y = .non)) S Us ∧ KM.Rest S Fs Us ∧ Us.length ≤ Fs.length := by
  induction h with
  | nil => exact ⟨[], .nil, ⟨fun _ h => (by cases h), fun _ h => (by cases h)⟩, Nat.le_refl _⟩
  | cons r _ ih =>
    rename_i F y Fs0 acc0 _
    obtain ⟨Us, hc, hr, hl⟩ := ih
    rcases r with ⟨rfl, hb⟩ | ⟨c, F1, rfl, hc1, hag⟩
    · refine ⟨Us, by rw [List.filter_cons_of_neg (by simp)]; exact hc, ⟨fun F' h => ?_, fun F' h b a => ?_⟩, Nat.le_succ_of_le hl⟩
      · obtain ⟨F0, h0, k⟩ := hr.dn F' h
        exact ⟨F0, List.mem_cons_of_mem _ h0, k⟩
      · rcases List.mem_cons.mp h with e | h
        · subst e
          obtain ⟨b1, g1, b2, g2, m1, m2, ne⟩ := b
          obtain ⟨a1, i1, a2, i2, n1, n2, ne'⟩ := a
          refine absurd ⟨two_le (a := a1) (b := a2) ?_ ?_ ne', two_le (a := b1) (b := b2) ?_ ?_ ne⟩ hb
          · exact List.mem_filter.mpr ⟨mem_near.mpr ⟨hS _ i1, n1⟩, decide_eq_true i1⟩
          · exact List.mem_filter.mpr ⟨mem_near.mpr ⟨hS _ i2, n2⟩, decide_eq_true i2⟩
          · exact List.mem_filter.mpr ⟨m1, decide_eq_true g1⟩
          · exact List.mem_filter.mpr ⟨m2, decide_eq_true g2⟩
        · exact hr.up F' h b a
    · refine ⟨F1 :: Us, by rw [List.filter_cons_of_pos (by simp)]; exact .cons ⟨c, rfl, hc1⟩ hc, ⟨fun F' h => ?_, fun F' h b a => ?_⟩, by simpa using hl⟩
      · rcases List.mem_cons.mp h with e | h
        · subst e
          exact ⟨F, List.mem_cons_self, hag⟩
        · obtain ⟨F0, h0, k⟩ := hr.dn F' h
          exact ⟨F0, List.mem_cons_of_mem _ h0, k⟩
      · rcases List.mem_cons.mp h with e | h
        · subst e
          exact ⟨F1, List.mem_cons_self, hag⟩
        · obtain ⟨F0, h0, k⟩ := hr.up F' h b a
          exact ⟨F0, List.mem_cons_of_mem _ h0, k⟩
theorem rest_perm {S : List Str} {Fs Us Us' : List (List Str)} (h : KM.Rest S Fs Us) (m : ∀ F, F ∈ Us' ↔ F ∈ Us) : KM.Rest S Fs Us' :=
  ⟨fun F' k => h.dn F' ((m F').mp k), fun F k b a => by
    obtain ⟨F0, h0, z⟩ := h.up F k b a
    exact ⟨F0, (m F0).mpr h0, z⟩⟩
theorem Pt.Of.symm {z : Pt} {l l' : List Str} (h : z.Of l l') : z.Of l' l := ⟨h.ok, h.pairs.elim (fun h => .inr h) fun h => .inl h⟩
def farOf (F l : List Str) : List Str := l.filter fun x => decide (x ∈ F)
def restOf (l f : List Str) : List Str := l.filter fun x => !decide (x ∈ f)
theorem code_far {F : List Str} {a b c d : Str} (ha : Asc [a, b, c, d]) : ((farOf F [a, b, c, d]).length = 2 → ∀ z : Pt, z.Of (restOf [a, b, c, d] (farOf F [a, b, c, d])) (farOf F [a, b, c, d]) → KM.code F a b c d = some z) ∧
    ((farOf F [a, b, c, d]).length ≠ 2 → KM.code F a b c d = none) ∧ ((farOf F [a, b, c, d]).length = 2 → (restOf [a, b, c, d] (farOf F [a, b, c, d])).length = 2) ∧ (∀ x ∈ restOf [a, b, c, d] (farOf F [a, b, c, d]) ++ farOf F [a, b, c, d], x ∈ [a, b, c, d]) ∧ (restOf [a, b, c, d] (farOf F [a, b, c, d]) ++ farOf F [a, b, c, d]).Nodup := by
  obtain ⟨ab, ac, ad, bc, bd, cd⟩ := KM.of_asc4 ha
  have nab := sl_ne ab
  have nac := sl_ne ac
  have nad := sl_ne ad
  have nbc := sl_ne bc
  have nbd := sl_ne bd
  have ncd := sl_ne cd
  refine ⟨?_, ?_, ?_, ?_, ?_⟩
  · by_cases ia : a ∈ F <;> by_cases ib : b ∈ F <;> by_cases ic : c ∈ F <;> by_cases id : d ∈ F <;>
      simp only [farOf, restOf, List.filter_cons, List.filter_nil, ia, ib, ic, id, decide_true, decide_false, if_true, if_false, List.length_cons, List.length_nil, Bool.false_eq_true, List.mem_cons, List.not_mem_nil, or_false, nab, nac, nad, nbc, nbd, ncd, nab.symm, nac.symm, nad.symm, nbc.symm, nbd.symm, ncd.symm, Bool.not_true, Bool.not_false, or_true, true_or, or_self, false_or] <;>
      first
        | (intro h; exact absurd h (by decide))
        | (intro _ z hz
           first
             | (cases of_uniq hz ab cd ac; exact KM.code_some.mpr ⟨.inl rfl, KM.makes_iff.mpr (by simp [ia, ib, ic, id])⟩)
             | (cases of_uniq hz.symm ab cd ac; exact KM.code_some.mpr ⟨.inl rfl, KM.makes_iff.mpr (by simp [ia, ib, ic, id])⟩)
             | (cases of_uniq hz ac bd ab; exact KM.code_some.mpr ⟨.inr (.inl rfl), KM.makes_iff.mpr (by simp [ia, ib, ic, id])⟩)
             | (cases of_uniq hz.symm ac bd ab; exact KM.code_some.mpr ⟨.inr (.inl rfl), KM.makes_iff.mpr (by simp [ia, ib, ic, id])⟩)
             | (cases of_uniq hz ad bc ab; exact KM.code_some.mpr ⟨.inr (.inr rfl), KM.makes_iff.mpr (by simp [ia, ib, ic, id])⟩)
             | (cases of_uniq hz.symm ad bc ab; exact KM.code_some.mpr ⟨.inr (.inr rfl), KM.makes_iff.mpr (by simp [ia, ib, ic, id])⟩))
  · by_cases ia : a ∈ F <;> by_cases ib : b ∈ F <;> by_cases ic : c ∈ F <;> by_cases id : d ∈ F <;>
      simp [farOf, List.filter_cons, ia, ib, ic, id, KM.code, KM.makes, KM.sd]
  · by_cases ia : a ∈ F <;> by_cases ib : b ∈ F <;> by_cases ic : c ∈ F <;> by_cases id : d ∈ F <;>
      simp [farOf, restOf, List.filter_cons, ia, ib, ic, id, nab, nac, nad, nbc, nbd, ncd, nab.symm, nac.symm, nad.symm, nbc.symm, nbd.symm, ncd.symm]
  · intro x hx
    rcases List.mem_append.mp hx with h | h
    · exact (List.mem_filter.mp h).1
    · exact (List.mem_filter.mp h).1
  · refine List.nodup_append.mpr ⟨(ha.filter _).nodup, (ha.filter _).nodup, fun x hx y hy e => ?_⟩
    subst e
    have := (List.mem_filter.mp hx).2
    simp [hy] at this
theorem CutAt.extL {CC : Addr} {H H' : Hp} {D b : Addr} {G F : List Str} {l : List V} (h : CutAt CC H b G F) (hD : H D = some (.lst l)) (e : ExtB D H H') : CutAt CC H' b G F := by
  have ne : ∀ {t : Addr} {o : HO}, H t = some o → o ≠ .lst l → t ≠ D := fun h n z => by rw [z, hD] at h; injection h with h; exact n h.symm
  obtain ⟨dy, n, f, g, h1, h2, h3, h4, r⟩ := h
  exact ⟨dy, n, f, g, e _ _ (ne h1 fun z => by cases z) h1, e _ _ (ne h2 fun z => by cases z) h2, e _ _ (ne h3 fun z => by cases z) h3, e _ _ (ne h4 fun z => by cases z) h4, r⟩
theorem All2.get {α β : Type} {R : α → β → Prop} {xs : List α} {ys : List β} (h : All2 R xs ys) : ∀ {j : Nat} {x : α}, xs[j]? = some x → ∃ y, ys[j]? = some y ∧ R x y := by
  induction h with
  | nil => intro j x hx; simp at hx
  | cons r _ ih =>
    intro j x hx
    cases j with
    | zero => simp at hx; subst hx; exact ⟨_, rfl, r⟩
    | succ j => simp at hx; simpa using ih hx
def keepN (S : List Str) : V → Bool := fun v => match v with | .str z => !decide (z ∈ S) | _ => false
theorem filter_vN (S l : List Str) : (vS l).filter (keepN S) = vS (restOf l S) := by
  rw [List.filter_map]; rfl
theorem rel_cuts {CC : Addr} {H : Hp} {us acc : List V} {G : List Str} {Fs : List (List Str)} {R : List Str → V → Prop} (h : CutsAt CC H us G Fs) (k : All2 (fun x y => ∃ a F, x = .ref a ∧ CutAt CC H a G F ∧ R F y) us acc) : All2 R Fs acc := by
  induction h generalizing acc with
  | nil => cases k; exact .nil
  | cons r _ ih =>
    cases k with
    | cons r' k' =>
      obtain ⟨a, rfl, ha⟩ := r
      obtain ⟨a', F', e, ha', hR⟩ := r'
      injection e with e
      subst e
      rw [ha.uniq ha']
      exact .cons hR (ih k')
section
variable {P : Program} {w : World} {K : PySem.W.Frag} {mg : Str → Option Value} {base : Heap} {CP CC CT : Addr}
def spOnlyT (K : PySem.W.Frag) (CC CT : Addr) : Sp := fun vs H Q _ => ∃ a t G Fs S, vs = [.ref a, .ref t] ∧ TreeAt CC CT H a G Fs ∧ Sq K H t (vS S) ∧ Asc S ∧ 1 ≤ S.length ∧ (∀ x ∈ S, x ∈ G) ∧
  ∀ r H' Us, Ext H H' → H r = none → TreeAt CC CT H' r S Us → KM.Rest S Fs Us → Q (.ref r) H'
theorem sc_Tree_only : FnScope ["self", "hosts", "names", "name", "cuts", "cut"] ["self", "hosts"] (fnScope (inClass (top 50) 10)) := ⟨rfl, rfl, rfl, by decide +kernel, rfl, by decide +kernel, by decide +kernel⟩
theorem met_onlyT (T : TX K mg CP CC CT) : Met P w K mg base 8 CT "only" (spOnlyT K CC CT) [] := by
  refine met_of T.iT.cl T.m_onlyT sc_Tree_only (fun _ _ _ _ _ _ us hl => match us, hl with | [_, _], _ => rfl) (fun vs H Q E h => by obtain ⟨_, _, _, _, _, rfl, _⟩ := h; rfl) fun f cdv A outer s H vs Q E hr h => ?_
  refine ⟨_, (pss_cons (ps_set (i := 2) sc_Tree_only.nd rfl (Or.inr rfl) (C8.pe_c (cal_hosts_of T) hr (by decide) rfl (pa_cons (pv 1) pa_nil)))
      (pss_cons (ps_for PassesOwn.never rfl (pi_seq (pv 2)) (pg_name (i := 3) sc_Tree_only.nd rfl (Or.inl rfl)) (pss_one (ps_expr (C8.pe_mt (met_need_host T) hr (by decide) (pv 0) (pa_cons (pv 3) pa_nil)))))
      (pss_cons (ps_setLc (i := 4) (own := [("cut", 5)]) (tt := tYes) rfl sc_Tree_only.nd rfl rfl (sw_true rfl rfl rfl (by decide +kernel)) (pi_seq (pe_fld (pv 0) rfl)) (blkOk_by (N := ["self", "hosts", "names", "name", "cuts", "cut"]) (sc := fnScope (inClass (top 50) 10)) (own := [("cut", 5)]) (by decide +kernel)) (fun _ _ _ _ _ => (pg_name (i := 5) sc_Tree_only.nd rfl (Or.inl rfl))) (fun _ _ _ _ _ => pts_nil) (fun _ _ _ _ _ => (C8.pe_mt (met_onlyC T) hr (by decide) (pv 5) (pa_cons (pv 2) pa_nil))))
      (pss_one (ps_ret (C8.pe_mk (mak_Trees T).1 hr (by decide) rfl (pa_cons (pv 2) (pa_cons (pe_lc (own := [("cut", 5)]) rfl sc_Tree_only.nd (pi_seq (pv 4)) (blkOk_by (N := ["self", "hosts", "names", "name", "cuts", "cut"]) (sc := fnScope (inClass (top 50) 10)) (own := [("cut", 5)]) (by decide +kernel)) (fun _ _ _ _ _ => (pg_name (i := 5) sc_Tree_only.nd rfl (Or.inl rfl))) (fun _ _ _ _ _ => (pts_one (pt_cmpR op_notN (pv 5) pe_non (nomark _)))) (fun _ _ _ _ _ => (pv 5))) pa_nil)))))))), ?_⟩
  obtain ⟨a, t, G, Fs, S, rfl, ha, ht, aS, nS, hS, q⟩ := h
  obtain ⟨dx, n, o, us, h1, h2, h3, h4, h5, h6, h7, h8⟩ := id ha
  have l40 : S.length ≤ 40 := Nat.le_trans (KM.asc_sub lo_sl aS h7.a hS).length_le h7.l40
  have okS : HostsOk S := ⟨aS, nS, l40, fun x hx => h7.g x (hS x hx)⟩
  dsimp only [tNext, tRet, tCB, tCons, tNil, tC, tSeq, tIfS, tTest, tNot, tOr, tAnd, tB, tAndV, tOrV, tNotV, tIf, tDrop, tOp, tChain, rI0, tTup, tLst, tCall, tMeth, tMake, tProp, tFld, sFld, tAsg, gName, tYes, List.map, tNever, tPar, cxK, cxw, cxnK, cxnw, List.singleton_append, List.append_nil, List.cons_append, List.nil_append]
  refine ⟨_, rfl, t, S, rfl, ht, aS.nodup, nS, l40, okS.g, fun us' p H1 au pu e1 fp tp => ?_⟩
  cases asc_uniq au aS fun k => pu.mem_iff
  refine tfor_of ?_
  refine ⟨_, rfl, iseq_of tp.sq fun J st ov hst => ?_⟩
  refine for_over ov (fun _ σ' H' => Ext H1 H' ∧ ∃ x, σ' = [some (.ref a), some (.ref t), some (.ref p), x, none, none]) ⟨Ext.rfl', none, rfl⟩ (fun j σ' H' w => hst _ w.1) (fun j σ' H2 x w hx => ?_) fun σ' H2 w => ?_
  · obtain ⟨e2, x0, rfl⟩ := w
    obtain ⟨z, hz, rfl⟩ := List.mem_map.mp (List.mem_of_getElem? hx)
    have E2 := e1.trans e2
    exact ⟨_, rfl, a, dx, _, rfl, E2 _ _ h1, by rfl, _, rfl, a, z, G, Fs, rfl, ha.ext E2, hS z hz, fun H3 e3 => ⟨e2.trans e3, _, rfl⟩⟩
  obtain ⟨e2, x0, rfl⟩ := w
  dsimp only [tNext, tRet, tCB, tCons, tNil, tC, tSeq, tIfS, tTest, tNot, tOr, tAnd, tB, tAndV, tOrV, tNotV, tIf, tDrop, tOp, tChain, rI0, tTup, tLst, tCall, tMeth, tMake, tProp, tFld, sFld, tAsg, gName, tYes, List.map, tNever, tPar, cxK, cxw, cxnK, cxnw, List.singleton_append, List.append_nil, List.cons_append, List.nil_append]
  have E2 := e1.trans e2
  refine tlc_of ?_
  refine ⟨_, rfl, a, CT, dx, _, _, rfl, E2 _ _ h1, T.iT.cl, T.nT _ (by decide), by rfl, ?_⟩
  refine iseq_of (Sq.tup (E2 _ _ h3)) fun J st ov hst => ?_
  have tp2 := e2 _ _ tp
  refine lc_rel ov (fun _ x y H' => ∃ b F, x = .ref b ∧ CutAt CC H b G F ∧ ((y = .non ∧ ¬ Big G F S) ∨ ∃ c F1, y = .ref c ∧ CutAt CC H' c S F1 ∧ Agree S F F1)) hst (tree40 (CT := CT) h4 h8) (fun D x y H3 H4 l hD e h => ?_) (fun D l x H3 M hx hD hl e hM => ?_) fun D H3 acc hD e3 hl hR => ?_
  · obtain ⟨b, F, rfl, hb, h⟩ := h
    refine ⟨b, F, rfl, hb, h.imp id fun ⟨c, F1, e1, e2, e3⟩ => ⟨c, F1, e1, e2.extL hD e, e3⟩⟩
  · obtain ⟨F, hF, b, rfl, hb⟩ := All2.mem_l h4 hx
    have E3 := E2.trans e
    obtain ⟨dy, _, _, _, k1, _⟩ := id (hb.ext E3)
    refine ⟨_, rfl, b, dy, _, rfl, k1, by rfl, _, rfl, b, p, G, F, S, rfl, hb.ext E3, TupS.sq (e _ _ tp2), fun hz H4 e4 => ?_, fun z1 z2 H4 c G1 F1 e4 fc hc pG pF => ?_⟩
    · exact hM _ _ e4 ⟨b, F, rfl, hb, .inl ⟨rfl, fun z => by have := z.1; have := z.2; omega⟩⟩
    · refine hM _ _ e4 ⟨b, F, rfl, hb, .inr ⟨c, F1, rfl, ?_, ?_⟩⟩
      · have : G1 = S := asc_uniq hc.ok.aG aS fun k => by
          rw [pG.mem_iff, List.mem_append, List.mem_filter, List.mem_filter, mem_near, decide_eq_true_iff]
          constructor
          · rintro (h | h) <;> exact h.2
          · intro h
            by_cases m : k ∈ F
            · exact .inr ⟨m, h⟩
            · exact .inl ⟨⟨hS k h, m⟩, h⟩
        rw [← this]; exact hc
      · rcases pF with pF | pF
        · refine .inl fun x hx => ?_
          rw [pF.mem_iff, List.mem_filter, decide_eq_true_iff]
          exact ⟨fun h => h.1, fun h => ⟨h, hx⟩⟩
        · refine .inr fun x hx => ?_
          rw [pF.mem_iff, List.mem_filter, mem_near, decide_eq_true_iff]
          exact ⟨fun h => h.1.2, fun h => ⟨⟨hS x hx, h⟩, hx⟩⟩
  · have hR2 := rel_cuts (R := fun F y => (y = .non ∧ ¬ Big G F S) ∨ ∃ c F1, y = .ref c ∧ CutAt CC H3 c S F1 ∧ Agree S F F1) h4 hR
    obtain ⟨Us, cu, rs, lu⟩ := rest_list hS hR2
    have lacc : acc.length ≤ sizeLine := by rw [hR.length]; exact tree40 (CT := CT) h4 h8
    refine ⟨_, rfl, ?_⟩
    refine tlc_of ?_
    refine ⟨_, rfl, iseq_of (Sq.lst hl) fun J st ov hst => ?_⟩
    refine lc_fil ov (fun y => !decide (y = .non)) (show 5 < 6 by decide) hst lacc (fun x H4 M hx e hM => ?_) fun D' H4 hD' e4 hl' => ?_
    · exact ⟨_, rfl, rfl, _, rfl, hM _ Ext.rfl'⟩
    · intro x dx' fx fd nx
      have E4 := (E2.trans e3).trans e4
      refine tree_made (K := K) (CC := CC) (CT := CT) fx fd nx (TupS.sq ((e3.trans e4) _ _ tp2)) (.refl _) okS (.lst hl') (cu.ext e4) (Nat.le_trans lu h8) (KM.rest_cmp hS h6 rs.dn) fun H5 Us' e5 ta m => ?_
      exact q x H5 Us' (E4.trans e5) (extFree E4 fx) ta (rest_perm rs m)
def spCallT (CP CC CT : Addr) : Sp := fun vs H Q _ => ∃ t a b c d G Fs, vs = [.ref t, .str a, .str b, .str c, .str d] ∧ TreeAt CC CT H t G Fs ∧ Asc [a, b, c, d] ∧ (∀ x ∈ [a, b, c, d], x ∈ G) ∧
  (KM.ans Fs a b c d = none → ∀ H', Ext H H' → Q .non H') ∧ ∀ p r H', KM.ans Fs a b c d = some p → Ext H H' → H r = none → PartAt CP H' r p → Q (.ref r) H'
theorem sc_Tree___call__ : FnScope ["self", "a", "b", "c", "d", "four", "name", "cut", "far"] ["self", "a", "b", "c", "d"] (fnScope (inClass (top 50) 12)) := ⟨rfl, rfl, rfl, by decide +kernel, rfl, by decide +kernel, by decide +kernel⟩
theorem met_callT (T : TX K mg CP CC CT) : Met P w K mg base 5 CT "__call__" (spCallT CP CC CT) [] := by
  refine met_of T.iT.cl T.m_callT sc_Tree___call__ (fun _ _ _ _ _ _ us hl => match us, hl with | [_, _, _, _, _], _ => rfl) (fun vs H Q E h => by obtain ⟨_, _, _, _, _, _, _, rfl, _⟩ := h; rfl) fun f cdv A outer s H vs Q E hr h => ?_
  refine ⟨_, (pss_cons (ps_set (i := 5) sc_Tree___call__.nd rfl (Or.inl rfl) (pe_tup (pa_cons (pv 1) (pa_cons (pv 2) (pa_cons (pv 3) (pa_cons (pv 4) pa_nil))))))
      (pss_cons (ps_for PassesOwn.never rfl (pi_seq (pv 5)) (pg_name (i := 6) sc_Tree___call__.nd rfl (Or.inl rfl)) (pss_one (ps_expr (C8.pe_mt (met_need_host T) hr (by decide) (pv 0) (pa_cons (pv 6) pa_nil)))))
      (pss_cons (ps_if (pt_cmpR op_lt (pe_callB cr_lenS (by rfl) (T.nb "len" (by decide)) (by decide +kernel) (pa_cons (pe_callTy (cr_setS rfl) (by rfl) (T.nb "set" (by decide)) (by decide +kernel) (pa_cons (pe_lc (own := [("name", 6)]) (tt := tYes) rfl sc_Tree___call__.nd (pi_seq (pv 5)) (blkOk_by (N := ["self", "a", "b", "c", "d", "four", "name", "cut", "far"]) (sc := fnScope (inClass (top 50) 12)) (own := [("name", 6)]) (by decide +kernel)) (fun _ _ _ _ _ => (pg_name (i := 6) sc_Tree___call__.nd rfl (Or.inl rfl))) (fun _ _ _ _ _ => pts_nil) (fun _ _ _ _ _ => (pe_callTy call_str_str (by rfl) (T.nb "str" (by decide)) (by decide +kernel) (pa_cons (pv 6) pa_nil)))) pa_nil)) pa_nil)) (C8.pe_gc rfl T.g_FOUR_trees) mk) pss_never pss_nil)
      (pss_cons (ps_for PassesOwn.never rfl (pi_seq (pe_fld (pv 0) rfl)) (pg_name (i := 7) sc_Tree___call__.nd rfl (Or.inr rfl)) (pss_cons (ps_set (i := 8) sc_Tree___call__.nd rfl (Or.inr rfl) (pe_lc (own := [("name", 6)]) rfl sc_Tree___call__.nd (pi_seq (pv 5)) (blkOk_by (N := ["self", "a", "b", "c", "d", "four", "name", "cut", "far"]) (sc := fnScope (inClass (top 50) 12)) (own := [("name", 6)]) (by decide +kernel)) (fun _ _ _ _ _ => (pg_name (i := 6) sc_Tree___call__.nd rfl (Or.inl rfl))) (fun _ _ _ _ _ => (pts_one (pt_cmpR (opIn K) (pv 6) (pe_pr (prp_far T) hr (by decide) (pv 7)) mk))) (fun _ _ _ _ _ => (pv 6))))
      (pss_one (ps_if (pt_cmpR op_eq (pe_callB call_len (by rfl) (T.nb "len" (by decide)) (by decide +kernel) (pa_cons (pv 8) pa_nil)) (C8.pe_gc rfl T.g_PAIR_trees) mk) (pss_one (ps_ret (C8.pe_mk (mak_Parting T) hr (by decide) rfl (pa_cons (pe_lc (own := [("name", 6)]) rfl sc_Tree___call__.nd (pi_seq (pv 5)) (blkOk_by (N := ["self", "a", "b", "c", "d", "four", "name", "cut", "far"]) (sc := fnScope (inClass (top 50) 12)) (own := [("name", 6)]) (by decide +kernel)) (fun _ _ _ _ _ => (pg_name (i := 6) sc_Tree___call__.nd rfl (Or.inl rfl))) (fun _ _ _ _ _ => (pts_one (pt_cmpR (opNotIn K) (pv 6) (pv 8) mk))) (fun _ _ _ _ _ => (pv 6))) (pa_cons (pv 8) pa_nil))))) pss_nil))))
      (pss_one (ps_ret pe_non)))))), ?_⟩
  obtain ⟨t, a, b, c, d, G, Fs, rfl, ht, aS, hS, q1, q2⟩ := h
  obtain ⟨dx, n, o, us, h1, h2, h3, h4, h5, h6, h7, h8⟩ := id ht
  dsimp only [tNext, tRet, tCB, tCons, tNil, tC, tSeq, tIfS, tTest, tNot, tOr, tAnd, tB, tAndV, tOrV, tNotV, tIf, tDrop, tOp, tChain, rI0, tTup, tLst, tCall, tMeth, tMake, tProp, tFld, sFld, tAsg, gName, tYes, List.map, tNever, tPar, cxK, cxw, cxnK, cxnw, List.singleton_append, List.append_nil, List.cons_append, List.nil_append]
  refine ⟨_, rfl, _, rfl, _, rfl, _, rfl, by show 4 ≤ sizeLine; decide, fun p hp => ?_⟩
  have e1 := Ext.upd (o := .tup (vS [a, b, c, d])) hp
  refine tfor_of ?_
  refine ⟨_, rfl, ?_⟩
  refine iseq_of (Sq.tup upd_same) fun J st ov hst => ?_
  refine for_over ov (fun _ σ' H' => Ext (upd H p (.tup (vS [a, b, c, d]))) H' ∧ ∃ x, σ' = [some (.ref t), some (.str a), some (.str b), some (.str c), some (.str d), some (.ref p), x, none, none]) ⟨Ext.rfl', none, rfl⟩ (fun j σ' H' w => hst _ w.1) (fun j σ' H2 x w hx => ?_) fun σ' H2 w => ?_
  · obtain ⟨e2, x0, rfl⟩ := w
    obtain ⟨z, hz, rfl⟩ := List.mem_map.mp (List.mem_of_getElem? (show (vS [a, b, c, d])[j]? = some x from hx))
    have E2 := e1.trans e2
    exact ⟨_, rfl, t, dx, _, rfl, E2 _ _ h1, by rfl, _, rfl, t, z, G, Fs, rfl, ht.ext E2, hS z hz, fun H3 e3 => ⟨e2.trans e3, _, rfl⟩⟩
  obtain ⟨e2, x0, rfl⟩ := w
  dsimp only [tNext, tRet, tCB, tCons, tNil, tC, tSeq, tIfS, tTest, tNot, tOr, tAnd, tB, tAndV, tOrV, tNotV, tIf, tDrop, tOp, tChain, rI0, tTup, tLst, tCall, tMeth, tMake, tProp, tFld, sFld, tAsg, gName, tYes, List.map, tNever, tPar, cxK, cxw, cxnK, cxnw, List.singleton_append, List.append_nil, List.cons_append, List.nil_append]
  have E2 := e1.trans e2
  have tp : TupS H2 p [a, b, c, d] := e2 _ _ upd_same
  have l4 : (vS [a, b, c, d]).length ≤ sizeLine := by show 4 ≤ sizeLine; decide
  refine tlc_of ?_
  refine ⟨_, rfl, iseq_of tp.sq fun J st ov hst => ?_⟩
  refine lc_map ov id hst l4 (fun v H3 M hv e hM => ?_) fun D H3 hD e3 hl => ?_
  · obtain ⟨x, hx, rfl⟩ := List.mem_map.mp hv
    exact ⟨_, rfl, x, rfl, hM _ Ext.rfl'⟩
  refine ⟨D, [a, b, c, d], rfl, .inl (SqL.of (by rw [hl]; simp)), (by show 4 + 1 < 4096; decide), fun p2 hp2 => ?_⟩
  refine ⟨p2, [a, b, c, d], rfl, upd_same, fun us' hus hm => ?_⟩
  have hlen : us'.length = 4 := (List.Perm.length_eq ((List.perm_ext_iff_of_nodup hus aS.nodup).mpr hm))
  rw [hlen]
  refine ⟨_, _, rfl, rfl, false, rfl, iteF ?_⟩
  generalize hH4 : upd H3 p2 _ = H4
  have e4 : Ext H2 H4 := by rw [← hH4]; exact e3.trans (Ext.upd hp2)
  clear hH4
  have E4 := E2.trans e4
  refine tfor_of ?_
  refine ⟨_, rfl, t, CT, dx, _, _, rfl, E4 _ _ h1, T.iT.cl, T.nT _ (by decide), by rfl, ?_⟩
  refine iseq_of (Sq.tup (E4 _ _ h3)) fun J st ov hst => ?_
  refine for_over ov (fun j σ' H' => Ext H4 H' ∧ (∃ x y z, σ' = [some (.ref t), some (.str a), some (.str b), some (.str c), some (.str d), some (.ref p), x, y, z]) ∧ ∀ F ∈ Fs.take j, KM.code F a b c d = none) ⟨Ext.rfl', ⟨x0, none, none, rfl⟩, fun F h => absurd h (by simp)⟩ (fun j σ' H' w => hst _ w.1) (fun j σ' H5 x w hx => ?_) fun σ' H5 w => ?_
  · obtain ⟨e5, ⟨x1, y1, z1, rfl⟩, hno⟩ := w
    obtain ⟨F, hF, b', rfl, hb⟩ := All2.get h4 hx
    have E5 := E4.trans e5
    obtain ⟨dy, _, _, _, k1, _⟩ := id (hb.ext E5)
    have tp5 : TupS H5 p [a, b, c, d] := (e4.trans e5) _ _ tp
    have htk : Fs.take (j + 1) = Fs.take j ++ [F] := by rw [List.take_add_one, hF]; rfl
    have hpre : ∀ X, Fs = Fs.take j ++ (F :: X) → (∀ z, KM.code F a b c d = some z → KM.ans Fs a b c d = some z) := by
      intro X e z hz
      unfold KM.ans
      rw [e, List.findSome?_append, List.findSome?_eq_none_iff.mpr hno, Option.none_or, List.findSome?_cons, hz]
    have hsplit : Fs = Fs.take j ++ (F :: Fs.drop (j + 1)) := by
      have := (List.take_append_drop (j + 1) Fs).symm
      rw [htk, List.append_assoc] at this
      exact this
    dsimp only [tNext, tRet, tCB, tCons, tNil, tC, tSeq, tIfS, tTest, tNot, tOr, tAnd, tB, tAndV, tOrV, tNotV, tIf, tDrop, tOp, tChain, rI0, tTup, tLst, tCall, tMeth, tMake, tProp, tFld, sFld, tAsg, gName, tYes, List.map, tNever, tPar, cxK, cxw, cxnK, cxnw, List.singleton_append, List.append_nil, List.cons_append, List.nil_append]
    refine tlc_of ?_
    refine ⟨_, rfl, iseq_of tp5.sq fun J st ov hst => ?_⟩
    refine lc_fil ov (keepS F) (show 6 < 9 by decide) hst l4 (fun v H6 M hv e hM => ?_) fun D6 H6 hD6 e6 hl6 => ?_
    · obtain ⟨z, hz, rfl⟩ := List.mem_map.mp hv
      exact ⟨_, rfl, _, rfl, b', dy, _, rfl, e _ _ k1, b', G, F, rfl, hb.ext (E5.trans e), fun tf htf => in_seq htf.sq ⟨_, rfl, hM _ Ext.rfl'⟩⟩
    rw [filter_vS] at hl6
    have cf := code_far (F := F) aS
    have hl6 : H6 D6 = some (.lst (vS (farOf F [a, b, c, d]))) := hl6
    have sq6 : Sq K H6 D6 (vS (farOf F [a, b, c, d])) := .lst hl6
    refine ⟨_, rfl, _, _, rfl, sq6.len, ?_⟩
    rw [List.length_map]
    refine ⟨rfl, _, rfl, ?_⟩
    by_cases two : (farOf F [a, b, c, d]).length = 2
    · rw [two]
      refine iteT ?_
      refine tlc_of ?_
      refine ⟨_, rfl, iseq_of (TupS.sq (e6 _ _ tp5)) fun J st ov hst => ?_⟩
      refine lc_fil ov (keepN (farOf F [a, b, c, d])) (show 6 < 9 by decide) hst l4 (fun v H7 M hv e hM => ?_) fun D7 H7 hD7 e7 hl7 => ?_
      · obtain ⟨z, hz, rfl⟩ := List.mem_map.mp hv
        exact ⟨_, rfl, _, rfl, notIn_seq (sq6.ext e) ⟨_, rfl, hM _ Ext.rfl'⟩⟩
      rw [filter_vN] at hl7
      refine ⟨_, rfl, fun x dx' fx fd nx => ?_⟩
      have E7 := (E5.trans e6).trans e7
      refine part_made (K := K) (CP := CP) fx fd nx (.lst hl7) (sq6.ext e7) (cf.2.2.1 two) two (fun s hs => h7.g s (hS s (cf.2.2.2.1 s hs))) cf.2.2.2.2 fun H8 z e8 zo zp => ?_
      exact q2 z x H8 (hpre _ hsplit z (cf.1 two z zo)) (E7.trans e8) (extFree E7 fx) zp
    · rw [decide_eq_false (fun e => two (by injection e with e; omega))]
      refine iteF ⟨e5.trans e6, ⟨_, _, _, rfl⟩, fun F' h => ?_⟩
      rw [htk] at h
      rcases List.mem_append.mp h with h | h
      · exact hno F' h
      · rw [List.mem_singleton.mp h]
        exact cf.2.1 two
  · obtain ⟨e5, ⟨x1, y1, z1, rfl⟩, hno⟩ := w
    rw [← h4.length, List.take_length] at hno
    exact q1 (by unfold KM.ans; exact List.findSome?_eq_none_iff.mpr hno) _ (E4.trans e5)
end
end G
end

section
set_option Elab.async false
set_option linter.all false
set_option maxRecDepth 100000
set_option maxHeartbeats 1000000
/-! the law's draws -/
namespace G
open PySem PySem.Spec PyProof.Rows L2
open C8 (fnScope fnBody fnArgs Cal Met Mak)
open SkE (call_str_str)
open StX (pa_star tStar)
open PySem.W (Tup)
/-- the pen: so many draws at most -/
def PenAt (H : Hp) (p c : Addr) (N : Nat) : Prop := ∃ (ns : List Int) (go great : Int), H p = some (.lst [.ref c, .int go, .int great]) ∧ H c = some (.lst (ns.map V.int)) ∧ 0 ≤ go ∧ go ≤ (N : Int) ∧ 0 ≤ great
theorem PenAt.mono {H : Hp} {p c : Addr} {N N' : Nat} (h : PenAt H p c N) (hn : N ≤ N') : PenAt H p c N' := by
  obtain ⟨ns, go, gr, h1, h2, h3, h4, h5⟩ := h
  exact ⟨ns, go, gr, h1, h2, h3, by omega, h5⟩
theorem PenAt.ext {H H' : Hp} {p c : Addr} {N : Nat} (h : PenAt H p c N) (e : Ext H H') : PenAt H' p c N := by
  obtain ⟨ns, go, gr, h1, h2, r⟩ := h
  exact ⟨ns, go, gr, e _ _ h1, e _ _ h2, r⟩
theorem pen_ne {H : Hp} {p c : Addr} {ns : List Int} {c' : Addr} {go gr : V} (h1 : H p = some (.lst [.ref c', go, gr])) (h2 : H c = some (.lst (ns.map V.int))) : c ≠ p := fun e => by
  rw [e, h1] at h2
  injection h2 with h2
  injection h2 with h2
  cases ns with
  | nil => cases h2
  | cons x r => injection h2 with h2 _; cases h2
theorem dp_ints {K : PySem.W.Frag} {H : Hp} : ∀ xs : List Int, DpAll K H (xs.map V.int) (xs.map PySem.W.Datum.toD)
  | [] => .nil
  | x :: xs => .cons (.int x) (dp_ints xs)
section
variable {P : Program} {w : World} {K : PySem.W.Frag} {mg : Str → Option Value} {base : Heap} {CP CC CT : Addr}
def spDraw : Sp := fun vs H Q _ => ∃ p c m N, vs = [.ref p, .int m] ∧ PenAt H p c N ∧ N ≤ 100000 ∧ 1 ≤ m ∧ m < 1073741824 ∧ ∀ H' d, ExtB p H H' → PenAt H' p c (N + 1) → 0 ≤ d → d < m → Q (.int d) H'
theorem sc__law_draw : FnScope ["_law_pen_here", "_law_many", "_law_digit", "_law_go", "_law_cell", "_law_great", "_law_raw"] ["_law_pen_here", "_law_many"] (fnScope (top 53)) := ⟨rfl, rfl, rfl, by decide +kernel, rfl, by decide +kernel, by decide +kernel⟩
theorem cal__law_draw (T : TX K mg CP CC CT) : Cal P w K mg base 1 "_law_draw" spDraw [] := by
  refine cal_of T.d_draw sc__law_draw (fun _ _ _ _ _ _ us hl => match us, hl with | [_, _], _ => rfl) (fun vs H Q E h => by obtain ⟨_, _, _, _, rfl, _⟩ := h; rfl) fun f cdv A outer s H vs Q E hr h => ?_
  refine ⟨_, (pss_cons (ps_if (pt_cmpR op_gt (pe_ix ix_list (pv 0) pe_int (fun _ _ => rfl)) pe_int mk) (pss_cons (ps_set (i := 2) sc__law_draw.nd rfl (Or.inl rfl) (pe_op op_mod (pe_callTy call_int1 (by rfl) (T.nb "int" (by decide)) (by decide +kernel) (pa_cons (pe_ix ix_list (pv 0) pe_int (fun _ _ => rfl)) pa_nil)) (pv 1)))
      (pss_cons (ps_asg (pe_op op_fdiv (pe_callTy call_int1 (by rfl) (T.nb "int" (by decide)) (by decide +kernel) (pa_cons (pe_ix ix_list (pv 0) pe_int (fun _ _ => rfl)) pa_nil)) (pv 1)) (pg_sub (pv 0) pe_int set_list))
      (pss_one (ps_ret (pv 2))))) pss_nil)
      (pss_cons (ps_set (i := 3) sc__law_draw.nd rfl (Or.inl rfl) (pe_ix ix_list (pv 0) pe_int (fun _ _ => rfl)))
      (pss_cons (ps_asg (pe_op op_add (pv 3) pe_int) (pg_sub (pv 0) pe_int set_list))
      (pss_cons (ps_set (i := 4) sc__law_draw.nd rfl (Or.inl rfl) (pe_op op_add (pe_op op_mul pe_int (pv 3)) pe_int))
      (pss_cons (ps_if (pt_cmpR (op_neDt (α := List Int) (ltd hr (by decide))) (pe_ix ix_list (pv 0) pe_int (fun _ _ => rfl)) (pe_lst pa_nil) mk) (pss_one (ps_set (i := 4) sc__law_draw.nd rfl (Or.inl rfl) (pe_ix ix_list (pe_ix ix_list (pv 0) pe_int (fun _ _ => rfl)) (pe_op op_mod (pe_callTy call_int1 (by rfl) (T.nb "int" (by decide)) (by decide +kernel) (pa_cons (pv 3) pa_nil)) (pe_callB call_len (by rfl) (T.nb "len" (by decide)) (by decide +kernel) (pa_cons (pe_ix ix_list (pv 0) pe_int (fun _ _ => rfl)) pa_nil))) (fun _ _ => rfl)))) pss_nil)
      (pss_cons (ps_if (PW.pt (pw_and (pt_cmpR op_lt (pv 3) (pe_callB call_len (by rfl) (T.nb "len" (by decide)) (by decide +kernel) (pa_cons (pe_ix ix_list (pv 0) pe_int (fun _ _ => rfl)) pa_nil)) mk) (pw_and1 (pt_cmpR op_ge (pe_callB call_abs (by rfl) (T.nb "abs" (by decide)) (by decide +kernel) (pa_cons (pv 4) pa_nil)) (pe_op op_pow pe_int pe_int) mk)))) (pss_cons (ps_set (i := 5) sc__law_draw.nd rfl (Or.inl rfl) (pe_op op_add (pe_op op_mul pe_int (pe_op op_sub (pe_callB call_abs (by rfl) (T.nb "abs" (by decide)) (by decide +kernel) (pa_cons (pv 4) pa_nil)) (pe_op op_pow pe_int pe_int))) (pe_callTy call_int1 (by rfl) (T.nb "int" (by decide)) (by decide +kernel) (pa_cons (pe_cmpR op_lt (pv 4) pe_int mk) pa_nil))))
      (pss_cons (ps_asg (pe_op op_fdiv (pe_callTy call_int1 (by rfl) (T.nb "int" (by decide)) (by decide +kernel) (pa_cons (pv 5) pa_nil)) (pv 1)) (pg_sub (pv 0) pe_int set_list))
      (pss_one (ps_ret (pe_op op_mod (pe_callTy call_int1 (by rfl) (T.nb "int" (by decide)) (by decide +kernel) (pa_cons (pv 5) pa_nil)) (pv 1)))))) pss_nil)
      (pss_cons (ps_set (i := 6) sc__law_draw.nd rfl (Or.inl rfl) (pe_op op_mod (pe_callTy call_int1 (by rfl) (T.nb "int" (by decide)) (by decide +kernel) (pa_cons (pe_op op_pow (pe_op op_add (pe_op op_add (pe_op op_mod (pe_callTy call_int1 (by rfl) (T.nb "int" (by decide)) (by decide +kernel) (pa_cons (pv 4) pa_nil)) pe_int) (pe_op op_mul pe_int (pv 3))) pe_int) pe_int) pa_nil)) pe_int))
      (pss_cons (ps_set (i := 6) sc__law_draw.nd rfl (Or.inl rfl) (pe_op op_mod (pe_callTy call_int1 (by rfl) (T.nb "int" (by decide)) (by decide +kernel) (pa_cons (pe_op op_pow (pe_op op_add (pe_op op_add (pe_op op_mul (pv 6) (pe_op op_add (pe_op op_mul pe_int (pv 3)) pe_int)) (pe_op op_mul (pe_op op_mul pe_int (pv 3)) (pv 3))) pe_int) pe_int) pa_nil)) pe_int))
      (pss_one (ps_ret (pe_op op_mod (pe_callTy call_int1 (by rfl) (T.nb "int" (by decide)) (by decide +kernel) (pa_cons (pe_op op_fdiv (pv 6) pe_int) pa_nil)) (pv 1)))))))))))), ?_⟩
  obtain ⟨p, c, m, N, rfl, ⟨ns, go, gr, h1, h2, g0, gN, r0⟩, hN, m1, mx, q⟩ := h
  have cp := pen_ne h1 h2
  dsimp only [tNext, tRet, tCB, tCons, tNil, tC, tSeq, tIfS, tTest, tNot, tOr, tAnd, tB, tAndV, tOrV, tNotV, tIf, tDrop, tOp, tChain, rI0, tTup, tLst, tCall, tMeth, tMake, tProp, tFld, sFld, tAsg, gName, tYes, List.map, tNever, tPar, cxK, cxw, cxnK, cxnw, List.singleton_append, List.append_nil, List.cons_append, List.nil_append]
  refine ⟨_, rfl, p, _, _, _, rfl, rfl, .of h1, atI_nat (j := 2) rfl, _, _, rfl, rfl, ?_⟩
  by_cases hg : 0 < gr
  · refine ⟨true, dt hg, iteT ?_⟩
    refine ⟨_, rfl, p, _, _, _, rfl, rfl, .of h1, atI_nat (j := 2) rfl, .inl ⟨_, rfl, _, rfl, _, _, rfl, rfl, by omega, ?_⟩⟩
    refine ⟨_, rfl, p, _, _, _, rfl, rfl, .of h1, atI_nat (j := 2) rfl, .inl ⟨_, rfl, _, rfl, _, _, rfl, rfl, ⟨by omega, mx⟩, ?_⟩⟩
    refine ⟨_, rfl, p, _, _, 2, rfl, rfl, h1, by rfl, ?_⟩
    refine ⟨_, rfl, q _ _ extB_upd ⟨ns, go, _, upd_same, by rw [upd_ne cp]; exact h2, g0, by omega, Int.ediv_nonneg r0 (by omega)⟩ (Int.emod_nonneg _ (by omega)) (Int.emod_lt_of_pos _ (by omega))⟩
  · refine ⟨false, df hg, iteF ?_⟩
    refine ⟨_, rfl, p, _, _, _, rfl, rfl, .of h1, atI_nat (j := 1) rfl, ?_⟩
    refine ⟨_, rfl, _, _, rfl, rfl, _, rfl, p, _, _, 1, rfl, rfl, h1, by rfl, ?_⟩
    refine ⟨_, rfl, ?_⟩
    refine ⟨_, _, rfl, rfl, .inl ⟨by decide, by decide⟩, _, _, rfl, rfl, ?_⟩
    dsimp only [tNext, tRet, tCB, tCons, tNil, tC, tSeq, tIfS, tTest, tNot, tOr, tAnd, tB, tAndV, tOrV, tNotV, tIf, tDrop, tOp, tChain, rI0, tTup, tLst, tCall, tMeth, tMake, tProp, tFld, sFld, tAsg, gName, tYes, List.map, tNever, tPar, cxK, cxw, cxnK, cxnw, List.singleton_append, List.append_nil, List.cons_append, List.nil_append]
    generalize hH1 : upd H p _ = H1
    have e1 : ExtB p H H1 := by rw [← hH1]; exact extB_upd
    have k1 : H1 p = some (.lst [.ref c, .int (go + 1), .int gr]) := by rw [← hH1]; exact upd_same
    have k2 : H1 c = some (.lst (ns.map V.int)) := e1 _ _ cp h2
    clear hH1
    generalize 60251 * go + 2017 = cell
    refine ⟨_, rfl, p, _, _, _, rfl, rfl, .of k1, atI_nat (j := 0) rfl, by decide, fun L hL => ?_⟩
    refine ⟨ns, [], .lst (.of ((Ext.upd hL) _ _ k2)) (dp_ints ns), .lst (.of upd_same) .nil, ?_⟩
    have eL := Ext.upd (o := .lst []) hL
    have k1 := eL _ _ k1
    have k2 := eL _ _ k2
    have e2 := e1.then eL
    generalize upd H1 L (.lst []) = H2 at *
    rw [if_pos rfl]
    have tl : (ns.map V.int).length = ns.length := List.length_map ..
    have gz : go ≤ 100000 := by omega
    have fin : ∀ (H' : Hp) (great d : Int), ExtB p H2 H' → H' p = some (.lst [.ref c, .int (go + 1), .int great]) → 0 ≤ great → 0 ≤ d → d < m → Q (.int d) H' := fun H' great d e k3 hg hd hm =>
      q H' d (fun a o ha h => e a o ha (e2 a o ha h)) ⟨ns, go + 1, great, k3, e _ _ cp k2, by omega, by omega, hg⟩ hd hm
    by_cases hn : ns = []
    · refine ⟨false, by rw [decide_eq_true hn]; rfl, iteF ?_⟩
      refine ⟨_, rfl, _, rfl, p, _, _, _, rfl, rfl, .of k1, atI_nat (j := 0) rfl, _, _, rfl, .inl ⟨_, .of k2, rfl⟩, _, _, rfl, rfl, ?_⟩
      rw [tl]
      by_cases hA : go < (ns.length : Int)
      · refine ⟨true, dt hA, iteT ?_⟩
        refine ⟨_, rfl, _, rfl, _, _, rfl, rfl, ⟨by decide, by decide, by decide⟩, _, _, rfl, rfl, ?_⟩
        by_cases hB : (10 : Int) ^ (18 : Int).toNat ≤ (if cell < 0 then -cell else cell)
        · refine ⟨true, dt hB, iteT ?_⟩
          refine ⟨_, rfl, _, rfl, _, _, rfl, rfl, ⟨by decide, by decide, by decide⟩, _, _, rfl, rfl, _, _, rfl, rfl, .inl ⟨by decide, by decide⟩, _, rfl, _, _, rfl, rfl, .inr ⟨_, rfl, _, _, rfl, rfl, ?_⟩⟩
          have hgr : 0 ≤ 2 * ((if cell < 0 then -cell else cell) - (10 : Int) ^ (18 : Int).toNat) + (if decide (cell < 0) = true then 1 else 0 : Int) := by split <;> omega
          generalize 2 * ((if cell < 0 then -cell else cell) - (10 : Int) ^ (18 : Int).toNat) + (if decide (cell < 0) = true then 1 else 0 : Int) = great at *
          refine ⟨_, rfl, .inl ⟨_, rfl, _, rfl, _, _, rfl, rfl, ⟨by omega, mx⟩, _, rfl, p, _, _, 2, rfl, rfl, k1, by rfl, ?_⟩⟩
          exact ⟨_, rfl, .inl ⟨_, rfl, _, rfl, _, _, rfl, rfl, by omega, fin _ _ _ extB_upd upd_same (Int.ediv_nonneg hgr (by omega)) (Int.emod_nonneg _ (by omega)) (Int.emod_lt_of_pos _ (by omega))⟩⟩
        · refine ⟨false, df hB, iteF ?_⟩
          refine ⟨_, rfl, .inl ⟨_, rfl, _, _, rfl, rfl, (show (0 : Int) < 2147483563 by decide), _, rfl, _, _, rfl, rfl, .inl ⟨by decide, by decide⟩, _, _, rfl, rfl, _, _, rfl, rfl, _, _, rfl, rfl, ⟨by decide, by decide, by omega⟩, .inl ⟨_, rfl, _, _, rfl, rfl, (show (0 : Int) < 2147483629 by decide), ?_⟩⟩⟩
          dsimp only
          have r1 := Int.emod_nonneg ((cell % 2147483563 + 52223 * go + 271) ^ (5 : Int).toNat) (show (2147483629 : Int) ≠ 0 by decide)
          have r2 := Int.emod_lt_of_pos ((cell % 2147483563 + 52223 * go + 271) ^ (5 : Int).toNat) (show (0 : Int) < 2147483629 by decide)
          generalize (cell % 2147483563 + 52223 * go + 271) ^ (5 : Int).toNat % 2147483629 = raw at *
          have p1 : raw * (2 * go + 239) ≤ 2147483629 * 200239 := Int.mul_le_mul (by omega) (by omega) (by omega) (by decide)
          have p2 : 0 ≤ raw * (2 * go + 239) := Int.mul_nonneg r1 (by omega)
          have p3 : 41177 * go * go ≤ 4117700000 * 100000 := Int.mul_le_mul (by omega) (by omega) (by omega) (by decide)
          have p4 : 0 ≤ 41177 * go * go := Int.mul_nonneg (by omega) g0
          refine ⟨_, rfl, _, rfl, _, _, rfl, rfl, .inl ⟨by decide, by decide⟩, _, _, rfl, rfl, _, _, rfl, rfl, .inl ⟨by omega, by omega⟩, _, rfl, _, _, rfl, rfl, .inl ⟨by decide, by decide⟩, _, rfl, _, _, rfl, rfl, .inr ⟨by omega, by omega⟩, _, _, rfl, rfl, _, _, rfl, rfl, _, _, rfl, rfl, ⟨by decide, by decide, by omega⟩, .inl ⟨_, rfl, _, _, rfl, rfl, (show (0 : Int) < 2147483587 by decide), ?_⟩⟩
          exact ⟨_, rfl, _, _, rfl, rfl, ⟨by decide, by decide⟩, .inl ⟨_, rfl, _, rfl, _, _, rfl, rfl, by omega, fin _ _ _ (fun _ _ _ h => h) k1 r0 (Int.emod_nonneg _ (by omega)) (Int.emod_lt_of_pos _ (by omega))⟩⟩
      · refine ⟨false, df hA, iteF (iteF ?_)⟩
        refine ⟨_, rfl, .inl ⟨_, rfl, _, _, rfl, rfl, (show (0 : Int) < 2147483563 by decide), _, rfl, _, _, rfl, rfl, .inl ⟨by decide, by decide⟩, _, _, rfl, rfl, _, _, rfl, rfl, _, _, rfl, rfl, ⟨by decide, by decide, by omega⟩, .inl ⟨_, rfl, _, _, rfl, rfl, (show (0 : Int) < 2147483629 by decide), ?_⟩⟩⟩
        dsimp only
        have r1 := Int.emod_nonneg ((cell % 2147483563 + 52223 * go + 271) ^ (5 : Int).toNat) (show (2147483629 : Int) ≠ 0 by decide)
        have r2 := Int.emod_lt_of_pos ((cell % 2147483563 + 52223 * go + 271) ^ (5 : Int).toNat) (show (0 : Int) < 2147483629 by decide)
        generalize (cell % 2147483563 + 52223 * go + 271) ^ (5 : Int).toNat % 2147483629 = raw at *
        have p1 : raw * (2 * go + 239) ≤ 2147483629 * 200239 := Int.mul_le_mul (by omega) (by omega) (by omega) (by decide)
        have p2 : 0 ≤ raw * (2 * go + 239) := Int.mul_nonneg r1 (by omega)
        have p3 : 41177 * go * go ≤ 4117700000 * 100000 := Int.mul_le_mul (by omega) (by omega) (by omega) (by decide)
        have p4 : 0 ≤ 41177 * go * go := Int.mul_nonneg (by omega) g0
        refine ⟨_, rfl, _, rfl, _, _, rfl, rfl, .inl ⟨by decide, by decide⟩, _, _, rfl, rfl, _, _, rfl, rfl, .inl ⟨by omega, by omega⟩, _, rfl, _, _, rfl, rfl, .inl ⟨by decide, by decide⟩, _, rfl, _, _, rfl, rfl, .inr ⟨by omega, by omega⟩, _, _, rfl, rfl, _, _, rfl, rfl, _, _, rfl, rfl, ⟨by decide, by decide, by omega⟩, .inl ⟨_, rfl, _, _, rfl, rfl, (show (0 : Int) < 2147483587 by decide), ?_⟩⟩
        exact ⟨_, rfl, _, _, rfl, rfl, ⟨by decide, by decide⟩, .inl ⟨_, rfl, _, rfl, _, _, rfl, rfl, by omega, fin _ _ _ (fun _ _ _ h => h) k1 r0 (Int.emod_nonneg _ (by omega)) (Int.emod_lt_of_pos _ (by omega))⟩⟩
    · refine ⟨true, by rw [decide_eq_false hn]; rfl, iteT ?_⟩
      have hpos : 0 < ns.length := List.length_pos_iff.mpr hn
      obtain ⟨j, hj, ej⟩ : ∃ j : Nat, j < ns.length ∧ go % (ns.length : Int) = (j : Int) := ⟨(go % (ns.length : Int)).toNat, by have := Int.emod_lt_of_pos go (show (0 : Int) < (ns.length : Int) by omega); have := Int.emod_nonneg go (show (ns.length : Int) ≠ 0 by omega); omega, by have := Int.emod_nonneg go (show (ns.length : Int) ≠ 0 by omega); omega⟩
      refine ⟨_, rfl, p, _, _, _, rfl, rfl, .of k1, atI_nat (j := 0) rfl, ?_⟩
      refine ⟨_, rfl, .inl ⟨_, rfl, _, rfl, p, _, _, _, rfl, rfl, .of k1, atI_nat (j := 0) rfl, _, _, rfl, .inl ⟨_, .of k2, rfl⟩, _, _, rfl, rfl, by rw [tl]; omega, ?_⟩⟩
      dsimp only
      rw [tl, ej]
      refine ⟨c, _, _, .int ns[j], rfl, rfl, .of k2, atI_nat (j := j) (by simp [hj]), ?_⟩
      generalize ns[j] = cell
      refine ⟨_, rfl, _, rfl, p, _, _, _, rfl, rfl, .of k1, atI_nat (j := 0) rfl, _, _, rfl, .inl ⟨_, .of k2, rfl⟩, _, _, rfl, rfl, ?_⟩
      rw [tl]
      by_cases hA : go < (ns.length : Int)
      · refine ⟨true, dt hA, iteT ?_⟩
        refine ⟨_, rfl, _, rfl, _, _, rfl, rfl, ⟨by decide, by decide, by decide⟩, _, _, rfl, rfl, ?_⟩
        by_cases hB : (10 : Int) ^ (18 : Int).toNat ≤ (if cell < 0 then -cell else cell)
        · refine ⟨true, dt hB, iteT ?_⟩
          refine ⟨_, rfl, _, rfl, _, _, rfl, rfl, ⟨by decide, by decide, by decide⟩, _, _, rfl, rfl, _, _, rfl, rfl, .inl ⟨by decide, by decide⟩, _, rfl, _, _, rfl, rfl, .inr ⟨_, rfl, _, _, rfl, rfl, ?_⟩⟩
          have hgr : 0 ≤ 2 * ((if cell < 0 then -cell else cell) - (10 : Int) ^ (18 : Int).toNat) + (if decide (cell < 0) = true then 1 else 0 : Int) := by split <;> omega
          generalize 2 * ((if cell < 0 then -cell else cell) - (10 : Int) ^ (18 : Int).toNat) + (if decide (cell < 0) = true then 1 else 0 : Int) = great at *
          refine ⟨_, rfl, .inl ⟨_, rfl, _, rfl, _, _, rfl, rfl, ⟨by omega, mx⟩, _, rfl, p, _, _, 2, rfl, rfl, k1, by rfl, ?_⟩⟩
          exact ⟨_, rfl, .inl ⟨_, rfl, _, rfl, _, _, rfl, rfl, by omega, fin _ _ _ extB_upd upd_same (Int.ediv_nonneg hgr (by omega)) (Int.emod_nonneg _ (by omega)) (Int.emod_lt_of_pos _ (by omega))⟩⟩
        · refine ⟨false, df hB, iteF ?_⟩
          refine ⟨_, rfl, .inl ⟨_, rfl, _, _, rfl, rfl, (show (0 : Int) < 2147483563 by decide), _, rfl, _, _, rfl, rfl, .inl ⟨by decide, by decide⟩, _, _, rfl, rfl, _, _, rfl, rfl, _, _, rfl, rfl, ⟨by decide, by decide, by omega⟩, .inl ⟨_, rfl, _, _, rfl, rfl, (show (0 : Int) < 2147483629 by decide), ?_⟩⟩⟩
          dsimp only
          have r1 := Int.emod_nonneg ((cell % 2147483563 + 52223 * go + 271) ^ (5 : Int).toNat) (show (2147483629 : Int) ≠ 0 by decide)
          have r2 := Int.emod_lt_of_pos ((cell % 2147483563 + 52223 * go + 271) ^ (5 : Int).toNat) (show (0 : Int) < 2147483629 by decide)
          generalize (cell % 2147483563 + 52223 * go + 271) ^ (5 : Int).toNat % 2147483629 = raw at *
          have p1 : raw * (2 * go + 239) ≤ 2147483629 * 200239 := Int.mul_le_mul (by omega) (by omega) (by omega) (by decide)
          have p2 : 0 ≤ raw * (2 * go + 239) := Int.mul_nonneg r1 (by omega)
          have p3 : 41177 * go * go ≤ 4117700000 * 100000 := Int.mul_le_mul (by omega) (by omega) (by omega) (by decide)
          have p4 : 0 ≤ 41177 * go * go := Int.mul_nonneg (by omega) g0
          refine ⟨_, rfl, _, rfl, _, _, rfl, rfl, .inl ⟨by decide, by decide⟩, _, _, rfl, rfl, _, _, rfl, rfl, .inl ⟨by omega, by omega⟩, _, rfl, _, _, rfl, rfl, .inl ⟨by decide, by decide⟩, _, rfl, _, _, rfl, rfl, .inr ⟨by omega, by omega⟩, _, _, rfl, rfl, _, _, rfl, rfl, _, _, rfl, rfl, ⟨by decide, by decide, by omega⟩, .inl ⟨_, rfl, _, _, rfl, rfl, (show (0 : Int) < 2147483587 by decide), ?_⟩⟩
          exact ⟨_, rfl, _, _, rfl, rfl, ⟨by decide, by decide⟩, .inl ⟨_, rfl, _, rfl, _, _, rfl, rfl, by omega, fin _ _ _ (fun _ _ _ h => h) k1 r0 (Int.emod_nonneg _ (by omega)) (Int.emod_lt_of_pos _ (by omega))⟩⟩
      · refine ⟨false, df hA, iteF (iteF ?_)⟩
        refine ⟨_, rfl, .inl ⟨_, rfl, _, _, rfl, rfl, (show (0 : Int) < 2147483563 by decide), _, rfl, _, _, rfl, rfl, .inl ⟨by decide, by decide⟩, _, _, rfl, rfl, _, _, rfl, rfl, _, _, rfl, rfl, ⟨by decide, by decide, by omega⟩, .inl ⟨_, rfl, _, _, rfl, rfl, (show (0 : Int) < 2147483629 by decide), ?_⟩⟩⟩
        dsimp only
        have r1 := Int.emod_nonneg ((cell % 2147483563 + 52223 * go + 271) ^ (5 : Int).toNat) (show (2147483629 : Int) ≠ 0 by decide)
        have r2 := Int.emod_lt_of_pos ((cell % 2147483563 + 52223 * go + 271) ^ (5 : Int).toNat) (show (0 : Int) < 2147483629 by decide)
        generalize (cell % 2147483563 + 52223 * go + 271) ^ (5 : Int).toNat % 2147483629 = raw at *
        have p1 : raw * (2 * go + 239) ≤ 2147483629 * 200239 := Int.mul_le_mul (by omega) (by omega) (by omega) (by decide)
        have p2 : 0 ≤ raw * (2 * go + 239) := Int.mul_nonneg r1 (by omega)
        have p3 : 41177 * go * go ≤ 4117700000 * 100000 := Int.mul_le_mul (by omega) (by omega) (by omega) (by decide)
        have p4 : 0 ≤ 41177 * go * go := Int.mul_nonneg (by omega) g0
        refine ⟨_, rfl, _, rfl, _, _, rfl, rfl, .inl ⟨by decide, by decide⟩, _, _, rfl, rfl, _, _, rfl, rfl, .inl ⟨by omega, by omega⟩, _, rfl, _, _, rfl, rfl, .inl ⟨by decide, by decide⟩, _, rfl, _, _, rfl, rfl, .inr ⟨by omega, by omega⟩, _, _, rfl, rfl, _, _, rfl, rfl, _, _, rfl, rfl, ⟨by decide, by decide, by omega⟩, .inl ⟨_, rfl, _, _, rfl, rfl, (show (0 : Int) < 2147483587 by decide), ?_⟩⟩
        exact ⟨_, rfl, _, _, rfl, rfl, ⟨by decide, by decide⟩, .inl ⟨_, rfl, _, rfl, _, _, rfl, rfl, by omega, fin _ _ _ (fun _ _ _ h => h) k1 r0 (Int.emod_nonneg _ (by omega)) (Int.emod_lt_of_pos _ (by omega))⟩⟩
end
end G
end

section
set_option Elab.async false
set_option linter.all false
set_option maxRecDepth 100000
set_option maxHeartbeats 1000000
/-! the law's pen, mixing, hosts -/
namespace G
open PySem PySem.Spec PyProof.Rows L2
open C8 (fnScope fnBody fnArgs Cal Met Mak)
open SkE (call_str_str)
open StX (pa_star tStar)
open PySem.W (Tup)
/-- THE COMPREHENSION with an invariant of one's own -/
theorem lc_inv {J : It} {xs : List V} {st : Hp → Prop} {i : Nat} {σ : L2.St} {H : Hp} {tt : TT} {te : TE} {Q : VK} (ov : Over J xs st) (Iv : Addr → Nat → List V → Hp → Prop)
    (h0 : ∀ D, H D = none → Iv D 0 [] (upd H D (.lst []))) (hst : ∀ D j acc H', Iv D j acc H' → st H') (hz : xs.length ≤ sizeLine) (hD : ∀ D j acc H', Iv D j acc H' → H' D = some (.lst acc) ∧ acc.length ≤ j)
    (turn : ∀ D j acc x H1 (M : V → Hp → Prop) (N : Hp → Prop), Iv D j acc H1 → xs[j]? = some x → (∀ y H3, H3 D = some (.lst acc) → Iv D (j + 1) (acc ++ [y]) (upd H3 D (.lst (acc ++ [y]))) → M y H3) → (∀ H3, Iv D (j + 1) acc H3 → N H3) →
      tt (σ.set i (some x)) H1 fun b H2 => if b = true then te (σ.set i (some x)) H2 M else N H2)
    (fin : ∀ D acc H', Iv D xs.length acc H' → Q (.ref D) H') : LcR (gName i) tt te [i] σ Q J H := by
  intro D hD0
  refine ⟨fun j m H' => m = xs.length - j ∧ j ≤ xs.length ∧ ∃ acc, Iv D j acc H', ⟨xs.length, by simp, Nat.zero_le _, [], h0 D hD0⟩, ?_⟩
  rintro j m H1 ⟨rfl, hj, acc, hI⟩
  by_cases hlt : j < xs.length
  · refine .inr ⟨ov.go _ _ hlt (hst _ _ _ _ hI), fun H' => ∃ acc, Iv D (j + 1) acc H', fun H' p' => ⟨xs.length - (j + 1), by omega, rfl, hlt, p'⟩, fun x H' y => ?_⟩
    obtain ⟨rfl, hx⟩ := ov.yld _ _ _ _ hlt (hst _ _ _ _ hI) y
    have hw : (wipe σ [i]).set i (some x) = σ.set i (some x) := by simp [wipe]
    show wipe ((wipe σ [i]).set i (some x)) [i] = wipe σ [i] ∧ _
    rw [hw]
    refine ⟨by simp [wipe], turn D j acc x H' _ _ hI hx ?_ ?_⟩
    · intro y H3 h3 i3
      have := (hD _ _ _ _ hI).2
      exact ⟨acc, h3, by omega, _, i3⟩
    · exact fun H3 i3 => ⟨_, i3⟩
  · have e : j = xs.length := by omega
    subst e
    exact .inl ⟨ov.stop _ _ (Nat.le_refl _) (hst _ _ _ _ hI), fin D acc _ hI⟩
theorem pe_bmK {X : Cx} {o e : Expr} {es : List Expr} {to : TE} {t : TA} {name : Str} {apos cpos : Pos} {T id : String} {r : V → List V → Hp → VK → Prop} (K : PySem.W.Frag) (pa : PlainAttrs T) (slot : Slot T name id) (hty : typeOf (.builtin id) = pure (.type "method_descriptor")) (hm : MtR X id r) (ho : PE X o to) (ha : PA X (e :: es) t) (hK : X.K = K := by rfl)
    (hbase : attributeBase o name X.env (eval o X.env) = eval o X.env := by rfl)
    (hfew : ((backTo cpos (starEach (e :: es) X.env)).all (fun x => !x.1) && (backToKw cpos (keywordEach [] X.env)).all (fun x => x.1.isSome)
      && decide ((e :: es).length + ([] : List Keyword).length + (if ([] : List Keyword).isEmpty then 0 else 1) < 30)) = true := by rfl)
    (hline : (apos.endLine == cpos.line) = true := by rfl) (hs : starEach (e :: es) X.env = (false, eval e X.env) :: starEach es X.env := by rfl) (hplain : (backTo cpos (starEach es X.env)).any (·.1) = false := by rfl) :
    PE X (.Call (.Attribute o name apos) (e :: es) [] cpos) (tBM K T r to t) := by subst hK; exact pe_bm pa slot hty hm ho ha hbase hfew hline hs hplain
theorem call_lenK {X : Cx} (K : PySem.W.Frag) (h : X.K = K := by rfl) : CallR X (.builtin "len") (fun xs H Q => ∃ x n, xs = [x] ∧ LenV K x H n ∧ Q (.int n) H) := by subst h; exact call_len
theorem erase_perm {α : Type} : ∀ {l : List α} {k : Nat} (h : k < l.length), (l[k] :: l.eraseIdx k).Perm l
  | x :: r, 0, _ => .refl _
  | x :: r, k + 1, h => by
    have hk : k < r.length := by simpa using h
    have := erase_perm hk
    show (r[k] :: x :: r.eraseIdx k).Perm (x :: r)
    exact (List.Perm.swap _ _ _).trans (.cons x this)
theorem seqIx {k n : Nat} (h : k < n) : seqIndex? (k : Int) n = some k := by
  unfold seqIndex?
  simp
  omega
section
variable {P : Program} {w : World} {K : PySem.W.Frag} {mg : Str → Option Value} {base : Heap} {CP CC CT : Addr}
def spPen (K : PySem.W.Frag) : Sp := fun vs H Q _ => ∃ s, ∃ ns : List Int, vs = [.ref s] ∧ SqL K H s (ns.map V.int) ∧ ∀ H' p, Ext H H' → H p = none → ∀ c, H c = none → PenAt H' p c 0 → Q (.ref p) H'
theorem sc__law_pen : FnScope ["_law_script"] ["_law_script"] (fnScope (top 52)) := ⟨rfl, rfl, rfl, by decide +kernel, rfl, by decide +kernel, by decide +kernel⟩
theorem cal__law_pen (T : TX K mg CP CC CT) : Cal P w K mg base 1 "_law_pen" (spPen K) [] := by
  refine cal_of T.d_pen sc__law_pen (fun _ _ _ _ _ _ us hl => match us, hl with | [_], _ => rfl) (fun vs H Q E h => by obtain ⟨_, _, rfl, _⟩ := h; rfl) fun f cdv A outer s H vs Q E hr h => ?_
  refine ⟨_, (pss_one (ps_ret (pe_lst (pa_cons (pe_callTy call_list_of (by rfl) (T.nb "list" (by decide)) (by decide +kernel) (pa_cons (pe_slice sl_list (pv 0) po_none (po_some pe_int)) pa_nil)) (pa_cons pe_int (pa_cons pe_int pa_nil)))))), ?_⟩
  obtain ⟨t, ns, rfl, ht, q⟩ := h
  dsimp only [tNext, tRet, tCB, tCons, tNil, tC, tSeq, tIfS, tTest, tNot, tOr, tAnd, tB, tAndV, tOrV, tNotV, tIf, tDrop, tOp, tChain, rI0, tTup, tLst, tCall, tMeth, tMake, tProp, tFld, sFld, tAsg, gName, tYes, List.map, tNever, tPar, cxK, cxw, cxnK, cxnw, List.singleton_append, List.append_nil, List.cons_append, List.nil_append]
  refine ⟨_, rfl, _, rfl, t, _, rfl, ht, fun L hL => ?_⟩
  rw [show (63 : Int) = ((63 : Nat) : Int) from rfl, cut_hi, ← List.map_take]
  refine ⟨L, _, rfl, .inl (.of upd_same), fun L2 hL2 => ?_⟩
  refine ⟨by show 3 ≤ sizeLine; decide, fun p hp => ?_⟩
  have e1 := Ext.upd (o := .lst ((ns.take 63).map V.int)) hL
  have e2 := Ext.upd (o := .lst ((ns.take 63).map V.int)) hL2
  have e3 := Ext.upd (o := .lst [.ref L2, .int 0, .int 0]) hp
  exact q _ p ((e1.trans e2).trans e3) (extFree (e1.trans e2) hp) L2 (extFree e1 hL2) ⟨ns.take 63, 0, 0, upd_same, e3 _ _ upd_same, Int.le_refl _, by simp, Int.le_refl _⟩
/-- what a pen is not -/
theorem PenAt.ne {H : Hp} {p c a : Addr} {N : Nat} {o : HO} (h : PenAt H p c N) (ha : H a = some o) (hn : ∀ (c : Addr) (x y : Int), o ≠ .lst [.ref c, .int x, .int y]) : a ≠ p := fun e => by
  obtain ⟨ns, go, gr, h1, _⟩ := h
  rw [e, h1] at ha
  injection ha with ha
  exact hn _ _ _ ha.symm
def spMixed (K : PySem.W.Frag) : Sp := fun vs H Q _ => ∃ p c t xs N, vs = [.ref p, .ref t] ∧ PenAt H p c N ∧ N + xs.length ≤ 100000 ∧ Sq K H t xs ∧ xs.length ≤ 64 ∧ ∀ H' r ys, ExtB p H H' → H r = none → H' r = some (.lst ys) → ys.Perm xs → PenAt H' p c (N + xs.length) → Q (.ref r) H'
theorem sc__law_mixed : FnScope ["_law_pen_here", "_law_some", "_law_left", "_law_k"] ["_law_pen_here", "_law_some"] (fnScope (top 55)) := ⟨rfl, rfl, rfl, by decide +kernel, rfl, by decide +kernel, by decide +kernel⟩
theorem cal__law_mixed (T : TX K mg CP CC CT) : Cal P w K mg base 2 "_law_mixed" (spMixed K) [] := by
  refine cal_of T.d_mixed sc__law_mixed (fun _ _ _ _ _ _ us hl => match us, hl with | [_, _], _ => rfl) (fun vs H Q E h => by obtain ⟨_, _, _, _, _, rfl, _⟩ := h; rfl) fun f cdv A outer s H vs Q E hr h => ?_
  refine ⟨_, (pss_cons (ps_set (i := 2) sc__law_mixed.nd rfl (Or.inr rfl) (pe_callTy call_list_of (by rfl) (T.nb "list" (by decide)) (by decide +kernel) (pa_cons (pv 1) pa_nil)))
      (pss_one (ps_ret (pe_lc (own := [("_law_k", 3)]) (tt := tYes) rfl sc__law_mixed.nd (pi_range1 (by rfl) (T.nb "range" (by decide)) (pa_cons (pe_callB call_len (by rfl) (T.nb "len" (by decide)) (by decide +kernel) (pa_cons (pv 2) pa_nil)) pa_nil)) (blkOk_by (N := ["_law_pen_here", "_law_some", "_law_left", "_law_k"]) (sc := fnScope (top 55)) (own := [("_law_k", 3)]) (by decide +kernel)) (fun _ _ _ _ _ => (pg_name (i := 3) sc__law_mixed.nd rfl (Or.inl rfl))) (fun _ _ _ _ _ => pts_nil) (fun _ _ _ _ _ => (pe_bmK K PySem.F.plainAttrs_list PySem.F.slot_list_pop PySem.F.type_list_pop mt_popAt (pv 2) (pa_cons (C8.pe_c (cal__law_draw T) hr (by decide) rfl (pa_cons (pv 0) (pa_cons (pe_callB (call_lenK K) (by rfl) (T.nb "len" (by decide)) (by decide +kernel) (pa_cons (pv 2) pa_nil)) pa_nil))) pa_nil))))))), ?_⟩
  obtain ⟨p, c, t, xs, N, rfl, hp, hN, ht, hx, q⟩ := h
  dsimp only [tNext, tRet, tCB, tCons, tNil, tC, tSeq, tIfS, tTest, tNot, tOr, tAnd, tB, tAndV, tOrV, tNotV, tIf, tDrop, tOp, tChain, rI0, tTup, tLst, tCall, tMeth, tMake, tProp, tFld, sFld, tAsg, gName, tYes, List.map, tNever, tPar, cxK, cxw, cxnK, cxnw, List.singleton_append, List.append_nil, List.cons_append, List.nil_append]
  refine ⟨_, rfl, t, xs, rfl, ht, fun L hL => ?_⟩
  have e1 := Ext.upd (o := .lst xs) hL
  have pL : L ≠ p := by
    obtain ⟨ns, go, gr, h1, _⟩ := hp
    intro e; rw [e, h1] at hL; cases hL
  refine tlc_of ?_
  refine ⟨_, rfl, _, _, rfl, .inl ⟨_, .of upd_same, rfl⟩, ?_⟩
  refine ⟨_, rfl, by omega, by omega, ?_⟩
  rw [Int.toNat_natCast]
  have el : ((List.range xs.length).map fun (i : Nat) => V.int (0 + (i : Int))).length = xs.length := by simp
  refine lc_inv (over_range (lo := 0) (n := xs.length)) (fun D j acc H' => j ≤ xs.length ∧ D ≠ L ∧ D ≠ p ∧ H D = none ∧ ExtB p H H' ∧ PenAt H' p c (N + j) ∧ H' D = some (.lst acc) ∧ acc.length = j ∧ ∃ rest, H' L = some (.lst rest) ∧ (acc ++ rest).Perm xs)
    (fun D hD => ?_) (fun _ _ _ _ _ => trivial) (by rw [el]; exact Nat.le_trans hx (by decide)) (fun D j acc H' h => ⟨h.2.2.2.2.2.2.1, by omega⟩) (fun D j acc x H1 M N' hI hxj hM hN' => ?_) fun D acc H' hI => ?_
  · have dL : D ≠ L := fun e => by rw [e, upd_same] at hD; cases hD
    have hD0 := extFree e1 hD
    have dp : D ≠ p := fun e => by
      obtain ⟨ns, go, gr, h1, _⟩ := hp
      rw [e, h1] at hD0; cases hD0
    refine ⟨Nat.zero_le _, dL, dp, hD0, fun a o ha h => ?_, ?_, upd_same, rfl, xs, ?_, .refl _⟩
    · exact (Ext.upd hD) _ _ (e1 _ _ h)
    · exact (hp.ext e1).ext (Ext.upd hD)
    · rw [upd_ne dL.symm]; exact upd_same
  · obtain ⟨hj, dL, dp, hD0, eb, pn, hacc, la, rest, hL1, hperm⟩ := hI
    have hjx : j < xs.length := by
      rcases Nat.lt_or_ge j xs.length with h | h
      · exact h
      · rw [List.getElem?_eq_none (by rw [el]; exact h)] at hxj; cases hxj
    have lr : rest.length + j = xs.length := by have := hperm.length_eq; rw [List.length_append] at this; omega
    dsimp only [tYes]
    rw [if_pos rfl]
    refine ⟨_, rfl, .inl ⟨rfl, _, .of hL1⟩, _, rfl, _, rfl, _, _, rfl, .inl ⟨_, .of hL1, rfl⟩, ?_⟩
    refine ⟨p, c, _, N + j, rfl, pn, by omega, by omega, by omega, fun H2 d e2 pn2 d0 dm => ?_⟩
    obtain ⟨k, rfl⟩ : ∃ k : Nat, d = (k : Int) := ⟨d.toNat, by omega⟩
    have hk : k < rest.length := by omega
    have hL2 := e2 _ _ pL hL1
    refine ⟨L, rest, _, k, rest[k], rfl, rfl, hL2, by omega, by omega, seqIx hk, by simp [hk], ?_⟩
    have hD2 := e2 _ _ dp hacc
    refine hM _ _ (by rw [upd_ne dL]; exact hD2) ⟨hjx, dL, dp, hD0, fun a o ha h => ?_, ?_, upd_same, by simp [la], rest.eraseIdx k, ?_, ?_⟩
    · rw [upd_ne (ne_of_none h hD0), upd_ne (ne_of_none h hL)]
      exact e2 _ _ ha (eb a o ha h)
    · obtain ⟨ns, go, gr, h1, h2, r⟩ := pn2
      have cL : c ≠ L := fun e => by
        obtain ⟨ns1, go1, gr1, m1, m2, _⟩ := hp
        rw [e, hL] at m2; cases m2
      have cD : c ≠ D := fun e => by
        obtain ⟨ns1, go1, gr1, m1, m2, _⟩ := hp
        rw [e, hD0] at m2; cases m2
      exact ⟨ns, go, gr, by rw [upd_ne dp.symm, upd_ne pL.symm]; exact h1, by rw [upd_ne cD, upd_ne cL]; exact h2, r⟩
    · rw [upd_ne dL.symm]; exact upd_same
    · rw [List.append_assoc]
      exact (List.Perm.append_left acc (erase_perm hk)).trans hperm
  · obtain ⟨hj, dL, dp, hD0, eb, pn, hacc, la, rest, hL1, hperm⟩ := hI
    rw [el] at la pn
    have : rest = [] := by
      have := hperm.length_eq
      rw [List.length_append] at this
      exact List.eq_nil_of_length_eq_zero (by omega)
    subst this
    rw [List.append_nil] at hperm
    exact q H' D acc eb hD0 hacc hperm pn
def SIDES : List Str := ["a", "b", "c", "d", "e", "f", "h", "ab", "zz", "m", "switch", "abcdefgh"]
theorem sides_good : ∀ x ∈ SIDES, GoodName x := by
  intro x hx
  simp only [SIDES, List.mem_cons, List.not_mem_nil, or_false] at hx
  rcases hx with rfl | rfl | rfl | rfl | rfl | rfl | rfl | rfl | rfl | rfl | rfl | rfl <;> exact ⟨by decide +kernel, by decide +kernel, by decide +kernel⟩
theorem sides_nodup : SIDES.Nodup := by decide +kernel
/-- seven hosts at most -/
def spHosts : Sp := fun vs H Q _ => ∃ p c N, vs = [.ref p, .int 1, .int 7] ∧ PenAt H p c N ∧ N ≤ 90000 ∧ ∀ H' t G, ExtB p H H' → H t = none → TupS H' t G → HostsOk G → G.length ≤ 7 → PenAt H' p c (N + 13) → Q (.ref t) H'
theorem sc__law_hosts : FnScope ["_law_pen_here", "_law_few", "_law_many", "_law_names", "_law_name"] ["_law_pen_here", "_law_few", "_law_many"] (fnScope (top 56)) := ⟨rfl, rfl, rfl, by decide +kernel, rfl, by decide +kernel, by decide +kernel⟩
theorem cal__law_hosts (T : TX K mg CP CC CT) : Cal P w K mg base 3 "_law_hosts" spHosts [] := by
  refine cal_of T.d_hosts sc__law_hosts (fun _ _ _ _ _ _ us hl => match us, hl with | [_, _, _], _ => rfl) (fun vs H Q E h => by obtain ⟨_, _, _, rfl, _⟩ := h; rfl) fun f cdv A outer s H vs Q E hr h => ?_
  refine ⟨_, (pss_cons (ps_set (i := 3) sc__law_hosts.nd rfl (Or.inl rfl) (C8.pe_c (cal__law_mixed T) hr (by decide) rfl (pa_cons (pv 0) (pa_cons (pe_lst (pa_cons pe_str (pa_cons pe_str (pa_cons pe_str (pa_cons pe_str (pa_cons pe_str (pa_cons pe_str (pa_cons pe_str (pa_cons pe_str (pa_cons pe_str (pa_cons pe_str (pa_cons pe_str (pa_cons pe_str pa_nil))))))))))))) pa_nil))))
      (pss_one (ps_ret (pe_callTy call_tuple_of (by rfl) (T.nb "tuple" (by decide)) (by decide +kernel) (pa_cons (pe_callB cr_sortedS (by rfl) (T.nb "sorted" (by decide)) (by decide +kernel) (pa_cons (pe_lc (own := [("_law_name", 4)]) (tt := tYes) rfl sc__law_hosts.nd (pi_seq (pe_slice sl_seq (pv 3) po_none (po_some (pe_op op_add (pv 1) (C8.pe_c (cal__law_draw T) hr (by decide) rfl (pa_cons (pv 0) (pa_cons (pe_op op_add (pe_op op_sub (pv 2) (pv 1)) pe_int) pa_nil))))))) (blkOk_by (N := ["_law_pen_here", "_law_few", "_law_many", "_law_names", "_law_name"]) (sc := fnScope (top 56)) (own := [("_law_name", 4)]) (by decide +kernel)) (fun _ _ _ _ _ => (pg_name (i := 4) sc__law_hosts.nd rfl (Or.inl rfl))) (fun _ _ _ _ _ => pts_nil) (fun _ _ _ _ _ => (pe_callTy call_str_str (by rfl) (T.nb "str" (by decide)) (by decide +kernel) (pa_cons (pv 4) pa_nil)))) pa_nil)) pa_nil))))), ?_⟩
  obtain ⟨p, c, N, rfl, hp, hN, q⟩ := h
  dsimp only [tNext, tRet, tCB, tCons, tNil, tC, tSeq, tIfS, tTest, tNot, tOr, tAnd, tB, tAndV, tOrV, tNotV, tIf, tDrop, tOp, tChain, rI0, tTup, tLst, tCall, tMeth, tMake, tProp, tFld, sFld, tAsg, gName, tYes, List.map, tNever, tPar, cxK, cxw, cxnK, cxnw, List.singleton_append, List.append_nil, List.cons_append, List.nil_append]
  refine ⟨_, rfl, by decide, fun L hL => ?_⟩
  have e1 := Ext.upd (o := .lst (vS SIDES)) hL
  refine ⟨p, c, L, vS SIDES, N, rfl, hp.ext e1, by rw [List.length_map]; show N + 12 ≤ _; omega, .lst upd_same, by decide, fun H1 r ys e2 hr1 hys pm p1 => ?_⟩
  obtain ⟨us, rfl⟩ : ∃ us : List Str, ys = vS us := by
    have : ∀ l : List V, (∀ y ∈ l, ∃ s : Str, y = .str s) → ∃ us : List Str, l = vS us := by
      intro l
      induction l with
      | nil => exact fun _ => ⟨[], rfl⟩
      | cons y r ih =>
        intro h
        obtain ⟨s, rfl⟩ := h y List.mem_cons_self
        obtain ⟨us, e⟩ := ih fun z hz => h z (List.mem_cons_of_mem _ hz)
        exact ⟨s :: us, by rw [e]; rfl⟩
    refine this ys fun y hy => ?_
    obtain ⟨s, _, e⟩ := List.mem_map.mp (pm.mem_iff.mp hy)
    exact ⟨s, e.symm⟩
  have pu : us.Perm SIDES := by
    have h1 : (vS us).Nodup := pm.nodup_iff.mpr (by decide +kernel)
    have n1 : us.Nodup := (List.pairwise_map.mp h1).imp fun {a b} h (e : a = b) => h (by rw [e])
    refine (List.perm_ext_iff_of_nodup n1 sides_nodup).mpr fun k => ?_
    have := pm.mem_iff (a := V.str k)
    simpa using this
  rw [List.length_map] at p1
  have p1 : PenAt H1 p c (N + 12) := p1
  refine tlc_of ?_
  refine ⟨_, rfl, _, rfl, _, rfl, _, rfl, _, rfl, _, _, rfl, rfl, _, _, rfl, rfl, p, c, _, _, rfl, p1, by omega, by decide, by decide, fun H2 d e3 p2 d0 dm => ?_⟩
  obtain ⟨k, rfl⟩ : ∃ k : Nat, d = (k : Int) := ⟨d.toNat, by omega⟩
  have rp : r ≠ p := fun e => by
    have := hp.ext e1
    obtain ⟨ns, go, gr, h1, _⟩ := this
    have hr1' : upd H L (.lst (vS SIDES)) r = none := hr1
    rw [e, h1] at hr1'; cases hr1'
  have hys2 : H2 r = some (.lst (vS us)) := e3 _ _ rp hys
  have hN3 : PenAt H2 p c (N + 13) := p2
  have ebH : ExtB p H H2 := fun a o ha h => e3 a o ha (e2 a o ha (e1 a o h))
  refine ⟨_, _, rfl, rfl, _, rfl, ?_⟩
  refine slq_of (Sq.lst hys2) fun p3 H3 e4 hs => ?_
  rw [show ((1 : Int) + (k : Int)) = ((1 + k : Nat) : Int) by omega, cut_hi, ← List.map_take] at hs
  have lu : us.length = 12 := pu.length_eq
  have lt : (us.take (1 + k)).length = 1 + k := by rw [List.length_take, lu]; omega
  refine iseq_of hs fun J st ov hst => ?_
  refine lc_map ov id hst (vS40 (by omega)) (fun v H4 M hv e hM => ?_) fun D H4 hD e5 hl => ?_
  · obtain ⟨x, hx, rfl⟩ := List.mem_map.mp hv
    exact ⟨_, rfl, x, rfl, hM _ Ext.rfl'⟩
  refine ⟨D, us.take (1 + k), rfl, SqL.of (by rw [hl]; simp), by rw [lt]; exact Nat.lt_of_le_of_lt (show 1 + k ≤ 40 by omega) (by decide), fun vs p5 hpm hso hp5 => ?_⟩
  refine ⟨p5, _, rfl, .inl ⟨.of upd_same, fun t ht => ?_⟩⟩
  have e6 := (e4.trans e5).trans (Ext.upd (o := .lst (vS vs)) hp5)
  have e7 := e6.trans (Ext.upd (o := .tup (vS vs)) ht)
  have hnd : vs.Nodup := hpm.nodup_iff.mpr ((pu.nodup_iff.mpr sides_nodup).sublist (List.take_sublist _ _))
  have hl7 : vs.length = 1 + k := by rw [hpm.length_eq, lt]
  have htn : H t = none := by
    have h2 := extFree e6 ht
    have tp : t ≠ p := fun e => by
      obtain ⟨ns, go, gr, h1, _⟩ := hN3
      rw [e, h1] at h2; cases h2
    cases z : H t with
    | none => rfl
    | some o => rw [ebH _ _ tp z] at h2; cases h2
  refine q _ t vs (fun a o ha h => e7 _ _ (ebH a o ha h)) htn upd_same ⟨asc_of hso hnd, by omega, by omega, fun x hx => sides_good x (pu.mem_iff.mp (List.mem_of_mem_take (hpm.mem_iff.mp hx)))⟩ (by omega) (hN3.ext e7)
def spLNear (K : PySem.W.Frag) : Sp := fun vs H Q _ => ∃ g t G F, vs = [.ref g, .ref t] ∧ Sq K H g (vS G) ∧ Sq K H t (vS F) ∧ G.length ≤ 40 ∧ ∀ H' r, Ext H H' → H r = none → H' r = some (.lst (vS (nearOf G F))) → Q (.ref r) H'
theorem sc__law_near : FnScope ["_law_grown", "_law_side", "_law_name"] ["_law_grown", "_law_side"] (fnScope (top 58)) := ⟨rfl, rfl, rfl, by decide +kernel, rfl, by decide +kernel, by decide +kernel⟩
theorem cal__law_near (T : TX K mg CP CC CT) : Cal P w K mg base 1 "_law_near" (spLNear K) [] := by
  refine cal_of T.d_near sc__law_near (fun _ _ _ _ _ _ us hl => match us, hl with | [_, _], _ => rfl) (fun vs H Q E h => by obtain ⟨_, _, _, _, rfl, _⟩ := h; rfl) fun f cdv A outer s H vs Q E hr h => ?_
  refine ⟨_, (pss_one (ps_ret (pe_lc (own := [("_law_name", 2)]) rfl sc__law_near.nd (pi_seq (pv 0)) (blkOk_by (N := ["_law_grown", "_law_side", "_law_name"]) (sc := fnScope (top 58)) (own := [("_law_name", 2)]) (by decide +kernel)) (fun _ _ _ _ _ => (pg_name (i := 2) sc__law_near.nd rfl (Or.inl rfl))) (fun _ _ _ _ _ => (pts_one (pt_cmpR (opNotIn K) (pv 2) (pv 1) mk))) (fun _ _ _ _ _ => (pv 2))))), ?_⟩
  obtain ⟨g, t, G, F, rfl, hg, ht, h40, q⟩ := h
  dsimp only [tNext, tRet, tCB, tCons, tNil, tC, tSeq, tIfS, tTest, tNot, tOr, tAnd, tB, tAndV, tOrV, tNotV, tIf, tDrop, tOp, tChain, rI0, tTup, tLst, tCall, tMeth, tMake, tProp, tFld, sFld, tAsg, gName, tYes, List.map, tNever, tPar, cxK, cxw, cxnK, cxnw, List.singleton_append, List.append_nil, List.cons_append, List.nil_append]
  refine tlc_of ?_
  refine ⟨_, rfl, iseq_of hg fun J st ov hst => ?_⟩
  refine lc_fil ov (keepN F) (show 2 < 3 by decide) hst (vS40 h40) (fun v H2 M hv e hM => ?_) fun D H2 hD e2 hl => ?_
  · obtain ⟨x, hx, rfl⟩ := List.mem_map.mp hv
    exact ⟨_, rfl, _, rfl, notIn_seq (ht.ext e) ⟨_, rfl, hM _ Ext.rfl'⟩⟩
  rw [filter_vN] at hl
  have : restOf G F = nearOf G F := by unfold restOf nearOf; simp only [decide_not]
  rw [this] at hl
  exact q H2 D e2 hD hl
def spLCut (K : PySem.W.Frag) (CC : Addr) : Sp := fun vs H Q _ => ∃ g t G F, vs = [.ref g, .ref t] ∧ Sq K H g (vS G) ∧ Sq K H t (vS F) ∧ CutOk G F ∧ ∀ H' r, Ext H H' → H r = none → CutAt CC H' r G F → Q (.ref r) H'
theorem sc__law_cut : FnScope ["_law_grown", "_law_side"] ["_law_grown", "_law_side"] (fnScope (top 59)) := ⟨rfl, rfl, rfl, by decide +kernel, rfl, by decide +kernel, by decide +kernel⟩
theorem cal__law_cut (T : TX K mg CP CC CT) : Cal P w K mg base 5 "_law_cut" (spLCut K CC) [] := by
  refine cal_of T.d_cut sc__law_cut (fun _ _ _ _ _ _ us hl => match us, hl with | [_, _], _ => rfl) (fun vs H Q E h => by obtain ⟨_, _, _, _, rfl, _⟩ := h; rfl) fun f cdv A outer s H vs Q E hr h => ?_
  refine ⟨_, (pss_one (ps_ret (C8.pe_mk (mak_Cut T) hr (by decide) rfl (pa_cons (C8.pe_c (cal__law_near T) hr (by decide) rfl (pa_cons (pv 0) (pa_cons (pv 1) pa_nil))) (pa_cons (pv 1) pa_nil))))), ?_⟩
  obtain ⟨g, t, G, F, rfl, hg, ht, ok, q⟩ := h
  dsimp only [tNext, tRet, tCB, tCons, tNil, tC, tSeq, tIfS, tTest, tNot, tOr, tAnd, tB, tAndV, tOrV, tNotV, tIf, tDrop, tOp, tChain, rI0, tTup, tLst, tCall, tMeth, tMake, tProp, tFld, sFld, tAsg, gName, tYes, List.map, tNever, tPar, cxK, cxw, cxnK, cxnw, List.singleton_append, List.append_nil, List.cons_append, List.nil_append]
  refine ⟨_, rfl, _, rfl, g, t, G, F, rfl, hg, ht, ok.l40, fun H1 r e1 hr1 hl => ?_⟩
  refine ⟨_, rfl, fun x dx fx fd nx => ?_⟩
  have pm : (nearOf G F ++ F).Perm G := by
    refine (List.perm_ext_iff_of_nodup ?_ ok.aG.nodup).mpr fun k => ?_
    · exact List.nodup_append.mpr ⟨(ok.aG.filter _).nodup, ok.aF.nodup, fun x hx y hy e => (mem_near.mp hx).2 (e ▸ hy)⟩
    · rw [List.mem_append, mem_near]
      constructor
      · rintro (h | h)
        · exact h.1
        · exact ok.sub k h
      · intro h
        by_cases m : k ∈ F
        · exact .inr m
        · exact .inl ⟨h, m⟩
  refine cut_made (K := K) (CC := CC) fx fd nx (.lst hl) (ht.ext e1) ok.n2 ok.f2 (by rw [pm.length_eq]; exact ok.l40) (fun s hs => ok.g s (pm.mem_iff.mp hs)) (pm.nodup_iff.mpr ok.aG.nodup) fun H2 G1 F1 e2 ca pg pf => ?_
  have eG : G1 = G := asc_uniq ca.ok.aG ok.aG fun k => (pg.trans pm).mem_iff
  subst eG
  have eF : F1 = F := by
    refine asc_uniq ca.ok.aF ok.aF fun k => ?_
    rcases pf with pf | pf
    · exact pf.mem_iff
    · exfalso
      obtain ⟨g0, r0, e0⟩ : ∃ g0 r0, G1 = g0 :: r0 := by
        cases G1 with
        | nil => have := ok.n2; simp [nearOf] at this
        | cons a b => exact ⟨a, b, rfl⟩
      exact ca.ok.h g0 r0 e0 (pf.mem_iff.mpr (mem_near.mpr ⟨by rw [e0]; exact List.mem_cons_self, ok.h g0 r0 e0⟩))
  subst eF
  exact q H2 x (e1.trans e2) (extFree e1 fx) ca
/-- refs to lists of names: the sides of cuts that do not cross -/
def SidesAt (H : Hp) (rs : List V) (Fs : List (List Str)) : Prop := All2 (fun r F => ∃ a, r = .ref a ∧ H a = some (.lst (vS F))) rs Fs
theorem SidesAt.ext {H H' : Hp} {rs : List V} {Fs : List (List Str)} (h : SidesAt H rs Fs) (e : Ext H H') : SidesAt H' rs Fs := All2.imp h fun _ _ ⟨a, h1, h2⟩ => ⟨a, h1, e _ _ h2⟩
def spLTree (K : PySem.W.Frag) (CC CT : Addr) : Sp := fun vs H Q _ => ∃ g t G rs Fs, vs = [.ref g, .ref t] ∧ Sq K H g (vS G) ∧ HostsOk G ∧ Sq K H t rs ∧ SidesAt H rs Fs ∧ (∀ F ∈ Fs, CutOk G F) ∧ KM.AllCmp G Fs ∧ Fs.length ≤ 40 ∧ ∀ H' r Us, Ext H H' → H r = none → TreeAt CC CT H' r G Us → (∀ F, F ∈ Us ↔ F ∈ Fs) → Q (.ref r) H'
theorem sc__law_tree : FnScope ["_law_grown", "_law_sides", "_law_side"] ["_law_grown", "_law_sides"] (fnScope (top 60)) := ⟨rfl, rfl, rfl, by decide +kernel, rfl, by decide +kernel, by decide +kernel⟩
theorem cal__law_tree (T : TX K mg CP CC CT) : Cal P w K mg base 8 "_law_tree" (spLTree K CC CT) [] := by
  refine cal_of T.d_tree sc__law_tree (fun _ _ _ _ _ _ us hl => match us, hl with | [_, _], _ => rfl) (fun vs H Q E h => by obtain ⟨_, _, _, _, _, rfl, _⟩ := h; rfl) fun f cdv A outer s H vs Q E hr h => ?_
  refine ⟨_, (pss_one (ps_ret (C8.pe_mk (mak_Trees T).1 hr (by decide) rfl (pa_cons (pv 0) (pa_cons (pe_lc (own := [("_law_side", 2)]) (tt := tYes) rfl sc__law_tree.nd (pi_seq (pv 1)) (blkOk_by (N := ["_law_grown", "_law_sides", "_law_side"]) (sc := fnScope (top 60)) (own := [("_law_side", 2)]) (by decide +kernel)) (fun _ _ _ _ _ => (pg_name (i := 2) sc__law_tree.nd rfl (Or.inl rfl))) (fun _ _ _ _ _ => pts_nil) (fun _ _ _ _ _ => (C8.pe_c (cal__law_cut T) hr (by decide) rfl (pa_cons (pv 0) (pa_cons (pv 2) pa_nil))))) pa_nil))))), ?_⟩
  obtain ⟨g, t, G, rs, Fs, rfl, hg, hG, ht, hs, hok, hcmp, h40, q⟩ := h
  dsimp only [tNext, tRet, tCB, tCons, tNil, tC, tSeq, tIfS, tTest, tNot, tOr, tAnd, tB, tAndV, tOrV, tNotV, tIf, tDrop, tOp, tChain, rI0, tTup, tLst, tCall, tMeth, tMake, tProp, tFld, sFld, tAsg, gName, tYes, List.map, tNever, tPar, cxK, cxw, cxnK, cxnw, List.singleton_append, List.append_nil, List.cons_append, List.nil_append]
  refine ⟨_, rfl, ?_⟩
  refine tlc_of ?_
  refine ⟨_, rfl, iseq_of ht fun J st ov hst => ?_⟩
  refine lc_rel ov (fun _ x y H' => ∃ b F, x = .ref b ∧ H b = some (.lst (vS F)) ∧ ∃ c, y = .ref c ∧ CutAt CC H' c G F) hst (by rw [← hs.length]; exact Nat.le_trans h40 (by decide)) (fun D x y H3 H4 l hD e h => ?_) (fun D l x H3 M hx hD hl e hM => ?_) fun D H3 acc hD e3 hl hR => ?_
  · obtain ⟨b, F, rfl, hb, c, e1, e2⟩ := h
    exact ⟨b, F, rfl, hb, c, e1, e2.extL hD e⟩
  · obtain ⟨F, hF, b, rfl, hb⟩ := All2.mem_l hs hx
    exact ⟨_, rfl, _, rfl, g, b, G, F, rfl, hg.ext e, .lst (e _ _ hb), hok F hF, fun H' r e' fr hc => hM _ _ e' ⟨b, F, rfl, hb, r, rfl, hc⟩⟩
  · have cs : CutsAt CC H3 acc G Fs := by
      clear hl
      unfold SidesAt at hs
      revert hR
      clear hcmp hok ht ov hst q h40
      induction hs generalizing acc with
      | nil => intro hR; cases hR; exact .nil
      | cons r _ ih =>
        intro hR
        cases hR with
        | cons r' k' =>
          obtain ⟨a, rfl, ha⟩ := r
          obtain ⟨a', F', e, ha', hc⟩ := r'
          injection e with e
          subst e
          rw [ha] at ha'
          injection ha' with z
          injection z with z
          rw [vS_inj z]
          exact .cons hc (ih _ k')
    intro x dx' fx fd nx
    refine tree_made (K := K) (CC := CC) (CT := CT) fx fd nx (hg.ext e3) (.refl _) hG (.lst hl) cs h40 hcmp fun H4 Us e4 ta m => ?_
    exact q H4 x Us (e3.trans e4) (extFree e3 fx) ta m
end
end G
end

section
set_option Elab.async false
set_option linter.all false
set_option maxRecDepth 100000
set_option maxHeartbeats 1000000
/-! the law's sides -/
namespace G
open PySem PySem.Spec PyProof.Rows L2
open C8 (fnScope fnBody fnArgs Cal Met Mak)
open SkE (call_str_str)
open StX (pa_star tStar)
open PySem.W (Tup)
theorem near_perm {G F : List Str} (aG : Asc G) (aF : Asc F) (sub : ∀ x ∈ F, x ∈ G) : (nearOf G F ++ F).Perm G := by
  refine (List.perm_ext_iff_of_nodup ?_ aG.nodup).mpr fun k => ?_
  · exact List.nodup_append.mpr ⟨(aG.filter _).nodup, aF.nodup, fun x hx y hy e => (mem_near.mp hx).2 (e ▸ hy)⟩
  · rw [List.mem_append, mem_near]
    constructor
    · rintro (h | h)
      · exact h.1
      · exact sub k h
    · intro h
      by_cases m : k ∈ F
      · exact .inr m
      · exact .inl ⟨h, m⟩
/-- no common host -/
def Dj (A B : List Str) : Prop := ∀ x ∈ A, x ∉ B
theorem Dj.symm {A B : List Str} (h : Dj A B) : Dj B A := fun x hx k => h x k hx
def Lm (A B : List Str) : Prop := (∀ x ∈ A, x ∈ B) ∨ (∀ x ∈ B, x ∈ A) ∨ Dj A B
theorem Lm.symm {A B : List Str} (h : Lm A B) : Lm B A := by
  rcases h with h | h | h
  · exact .inr (.inl h)
  · exact .inl h
  · exact .inr (.inr h.symm)
structure Lam (t : List Str) (As Fs : List (List Str)) : Prop where
  a : ∀ A ∈ As, Asc A ∧ A ≠ [] ∧ ∀ x ∈ A, x ∈ t
  d : As.Pairwise Dj
  f : ∀ F ∈ Fs, Asc F ∧ 2 ≤ F.length ∧ F.length < t.length ∧ ∀ x ∈ F, x ∈ t
  fa : ∀ F ∈ Fs, ∀ A ∈ As, (∀ x ∈ F, x ∈ A) ∨ Dj F A
  ff : ∀ F ∈ Fs, ∀ F' ∈ Fs, Lm F F'
theorem Lam.perm {t : List Str} {As As' Fs : List (List Str)} (h : Lam t As Fs) (p : As'.Perm As) : Lam t As' Fs :=
  ⟨fun A hA => h.a A (p.mem_iff.mp hA), p.symm.pairwise h.d fun h => h.symm, h.f, fun F hF A hA => h.fa F hF A (p.mem_iff.mp hA), h.ff⟩
theorem Lam.step {t A B J : List Str} {R Fs : List (List Str)} (h : Lam t (A :: B :: R) Fs) (aJ : Asc J) (pJ : J.Perm (A ++ B)) : Lam t (R ++ [J]) Fs ∧ (J.length < t.length → Lam t (R ++ [J]) (Fs ++ [J])) := by
  have mJ : ∀ x, x ∈ J ↔ x ∈ A ∨ x ∈ B := fun x => by rw [pJ.mem_iff, List.mem_append]
  have hA := h.a A (by simp)
  have hB := h.a B (by simp)
  have d1 := List.pairwise_cons.mp h.d
  have d2 := List.pairwise_cons.mp d1.2
  have hJ : Asc J ∧ J ≠ [] ∧ ∀ x ∈ J, x ∈ t := by
    refine ⟨aJ, fun e => ?_, fun x hx => ?_⟩
    · cases hl : A with
      | nil => exact hA.2.1 hl
      | cons y r => have := (mJ y).mpr (.inl (by rw [hl]; simp)); rw [e] at this; simp at this
    · rcases (mJ x).mp hx with k | k
      · exact hA.2.2 x k
      · exact hB.2.2 x k
  have l2 : 2 ≤ J.length := by
    rw [pJ.length_eq, List.length_append]
    have : A.length ≠ 0 := fun e => hA.2.1 (List.eq_nil_of_length_eq_zero e)
    have : B.length ≠ 0 := fun e => hB.2.1 (List.eq_nil_of_length_eq_zero e)
    omega
  have dJ : ∀ C ∈ R, Dj C J := fun C hC x hx k => by
    rcases (mJ x).mp k with k | k
    · exact d1.1 C (List.mem_cons_of_mem _ hC) x k hx
    · exact d2.1 C hC x k hx
  have fJ : ∀ F ∈ Fs, (∀ x ∈ F, x ∈ J) ∨ Dj F J := fun F hF => by
    rcases h.fa F hF A (by simp) with k | k
    · exact .inl fun x hx => (mJ x).mpr (.inl (k x hx))
    · rcases h.fa F hF B (by simp) with k' | k'
      · exact .inl fun x hx => (mJ x).mpr (.inr (k' x hx))
      · refine .inr fun x hx m => ?_
        rcases (mJ x).mp m with m | m
        · exact k x hx m
        · exact k' x hx m
  have b : Lam t (R ++ [J]) Fs := by
    refine ⟨fun C hC => ?_, ?_, h.f, fun F hF C hC => ?_, h.ff⟩
    · rcases List.mem_append.mp hC with k | k
      · exact h.a C (by simp [k])
      · rw [List.mem_singleton.mp k]; exact hJ
    · refine List.pairwise_append.mpr ⟨d2.2, by simp, fun C hC D hD => ?_⟩
      rw [List.mem_singleton.mp hD]; exact dJ C hC
    · rcases List.mem_append.mp hC with k | k
      · exact h.fa F hF C (by simp [k])
      · rw [List.mem_singleton.mp k]; exact fJ F hF
  refine ⟨b, fun hl => ⟨b.a, b.d, fun F hF => ?_, fun F hF C hC => ?_, fun F hF F' hF' => ?_⟩⟩
  · rcases List.mem_append.mp hF with k | k
    · exact h.f F k
    · rw [List.mem_singleton.mp k]; exact ⟨aJ, l2, hl, hJ.2.2⟩
  · rcases List.mem_append.mp hF with k | k
    · exact b.fa F k C hC
    · rw [List.mem_singleton.mp k]
      rcases List.mem_append.mp hC with k' | k'
      · exact .inr (dJ C k').symm
      · rw [List.mem_singleton.mp k']; exact .inl fun x hx => hx
  · have two : ∀ F ∈ Fs, Lm F J := fun F hF => (fJ F hF).elim (fun k => .inl k) fun k => .inr (.inr k)
    rcases List.mem_append.mp hF with k | k <;> rcases List.mem_append.mp hF' with k' | k'
    · exact h.ff F k F' k'
    · rw [List.mem_singleton.mp k']; exact two F k
    · rw [List.mem_singleton.mp k]; exact (two F' k').symm
    · rw [List.mem_singleton.mp k, List.mem_singleton.mp k']; exact .inl fun x hx => hx
theorem Lam.cutOk {g0 : Str} {t : List Str} {As Fs : List (List Str)} (h : Lam t As Fs) (hG : HostsOk (g0 :: t)) : (∀ F ∈ Fs, CutOk (g0 :: t) F) ∧ KM.AllCmp (g0 :: t) Fs := by
  refine ⟨fun F hF => ?_, fun F hF F' hF' => ?_⟩
  · obtain ⟨aF, f2, lt, sub⟩ := h.f F hF
    have sub' : ∀ x ∈ F, x ∈ g0 :: t := fun x hx => List.mem_cons_of_mem _ (sub x hx)
    have := (near_perm hG.a aF sub').length_eq
    rw [List.length_append, List.length_cons] at this
    refine ⟨hG.a, aF, sub', f2, by omega, hG.l40, hG.g, fun g r e hg => ?_⟩
    injection e with e1 e2
    subst e1
    have := hG.a.nodup
    exact (List.nodup_cons.mp this).1 (sub _ hg)
  · rcases h.ff F hF F' hF' with k | k | k
    · exact .inr (.inl fun x _ z => z.2 (k x z.1))
    · exact .inr (.inr (.inl fun x _ z => z.1 (k x z.2)))
    · exact .inl fun x _ z => k x z.1 z.2
theorem All2.perm_l {α β : Type} {R : α → β → Prop} {xs xs' : List α} (p : xs.Perm xs') : ∀ {ys : List β}, All2 R xs ys → ∃ ys', ys.Perm ys' ∧ All2 R xs' ys' := by
  induction p with
  | nil => intro ys h; exact ⟨ys, .refl _, h⟩
  | cons x _ ih =>
    intro ys h
    cases h with
    | cons r h =>
      obtain ⟨ys', p', h'⟩ := ih h
      exact ⟨_, .cons _ p', .cons r h'⟩
  | swap x y l =>
    intro ys h
    cases h with
    | cons r h =>
      cases h with
      | cons r' h => exact ⟨_, .swap _ _ _, .cons r' (.cons r h)⟩
  | trans _ _ ih1 ih2 =>
    intro ys h
    obtain ⟨ys1, p1, h1⟩ := ih1 h
    obtain ⟨ys2, p2, h2⟩ := ih2 h1
    exact ⟨ys2, p1.trans p2, h2⟩
theorem All2.append {α β : Type} {R : α → β → Prop} {xs xs' : List α} {ys ys' : List β} (h : All2 R xs ys) (h' : All2 R xs' ys') : All2 R (xs ++ xs') (ys ++ ys') := by
  induction h with
  | nil => exact h'
  | cons r _ ih => exact .cons r ih
theorem All2.eraseIdx {α β : Type} {R : α → β → Prop} {xs : List α} {ys : List β} (h : All2 R xs ys) : ∀ k, All2 R (xs.eraseIdx k) (ys.eraseIdx k) := by
  induction h with
  | nil => intro k; exact .nil
  | cons r h ih =>
    intro k
    cases k with
    | zero => exact h
    | succ k => exact .cons r (ih k)
/-- refs all -/
theorem SidesAt.refs {H : Hp} {rs : List V} {Fs : List (List Str)} (h : SidesAt H rs Fs) : ∀ r ∈ rs, ∃ b, r = .ref b := fun r hr => by
  obtain ⟨_, _, a, e, _⟩ := All2.mem_l h hr
  exact ⟨a, e⟩
theorem SidesAt.fr {H H' : Hp} {rs : List V} {Fs : List (List Str)} (h : SidesAt H rs Fs) (hn : ∀ F ∈ Fs, F ≠ []) (e : ∀ a F, F ≠ [] → H a = some (.lst (vS F)) → H' a = some (.lst (vS F))) : SidesAt H' rs Fs := by
  induction h with
  | nil => exact .nil
  | cons r _ ih =>
    obtain ⟨a, rfl, ha⟩ := r
    exact .cons ⟨a, rfl, e _ _ (hn _ List.mem_cons_self) ha⟩ (ih fun F hF => hn F (List.mem_cons_of_mem _ hF))
theorem side_ne {H : Hp} {a I : Addr} {F : List Str} {rs : List V} (h : H a = some (.lst (vS F))) (hn : F ≠ []) (hI : H I = some (.lst rs)) (hr : ∀ r ∈ rs, ∃ b, r = .ref b) : a ≠ I := fun e => by
  rw [e, hI] at h
  injection h with h
  injection h with h
  cases F with
  | nil => exact hn rfl
  | cons x r =>
    obtain ⟨b, e⟩ := hr (.str x) (by rw [h]; simp)
    cases e
theorem side_pen {H : Hp} {a p c : Addr} {N : Nat} {F : List Str} (h : H a = some (.lst (vS F))) (hp : PenAt H p c N) : a ≠ p := by
  refine hp.ne h fun c x y z => ?_
  injection z with z
  cases F with
  | nil => cases z
  | cons x r => injection z with z _; cases z
/-- the state of the joining -/
structure FarSt (H0 : Hp) (p c I Fo : Addr) (N : Nat) (As Fs : List (List Str)) (H : Hp) : Prop where
  it : ∃ rs, H I = some (.lst rs) ∧ SidesAt H rs As
  fo : ∃ rs, H Fo = some (.lst rs) ∧ SidesAt H rs Fs
  pn : PenAt H p c N
  eb : ExtB p H0 H
  na : ∀ A ∈ As, A ≠ []
  nf : ∀ F ∈ Fs, F ≠ []
structure FarD (H0 : Hp) (p c I Fo : Addr) : Prop where
  pI : p ≠ I
  pF : p ≠ Fo
  IF : I ≠ Fo
  cI : c ≠ I
  cF : c ≠ Fo
  nI : H0 I = none
  nF : H0 Fo = none
section
variable {H0 H H' : Hp} {p c I Fo : Addr} {N : Nat} {As Fs : List (List Str)}
theorem FarSt.draw (D : FarD H0 p c I Fo) (h : FarSt H0 p c I Fo N As Fs H) (e : ExtB p H H') (pn : PenAt H' p c (N + 1)) : FarSt H0 p c I Fo (N + 1) As Fs H' := by
  obtain ⟨rs, h1, h2⟩ := h.it
  obtain ⟨rf, h3, h4⟩ := h.fo
  have k : ∀ a F, F ≠ [] → H a = some (.lst (vS F)) → H' a = some (.lst (vS F)) := fun a F _ ha => e _ _ (side_pen ha h.pn) ha
  exact ⟨⟨rs, e _ _ D.pI.symm h1, h2.fr h.na k⟩, ⟨rf, e _ _ D.pF.symm h3, h4.fr h.nf k⟩, pn, fun a o ha q => e _ _ ha (h.eb a o ha q), h.na, h.nf⟩
theorem FarSt.ext (h : FarSt H0 p c I Fo N As Fs H) (e : Ext H H') : FarSt H0 p c I Fo N As Fs H' := by
  obtain ⟨rs, h1, h2⟩ := h.it
  obtain ⟨rf, h3, h4⟩ := h.fo
  exact ⟨⟨rs, e _ _ h1, h2.ext e⟩, ⟨rf, e _ _ h3, h4.ext e⟩, h.pn.ext e, fun a o ha q => e _ _ (h.eb a o ha q), h.na, h.nf⟩
theorem FarSt.setI (D : FarD H0 p c I Fo) (h : FarSt H0 p c I Fo N As Fs H) {As' : List (List Str)} {rs' : List V} (hs : SidesAt H rs' As') (na : ∀ A ∈ As', A ≠ []) : FarSt H0 p c I Fo N As' Fs (upd H I (.lst rs')) := by
  obtain ⟨rs, h1, h2⟩ := h.it
  obtain ⟨rf, h3, h4⟩ := h.fo
  have k : ∀ a F, F ≠ [] → H a = some (.lst (vS F)) → upd H I (.lst rs') a = some (.lst (vS F)) := fun a F hn ha => by rw [upd_ne (side_ne ha hn h1 h2.refs)]; exact ha
  refine ⟨⟨rs', upd_same, hs.fr na k⟩, ⟨rf, by rw [upd_ne D.IF.symm]; exact h3, h4.fr h.nf k⟩, ?_, fun a o ha q => by rw [upd_ne (ne_of_none q D.nI)]; exact h.eb a o ha q, na, h.nf⟩
  obtain ⟨ns, go, gr, k1, k2, r⟩ := h.pn
  exact ⟨ns, go, gr, by rw [upd_ne D.pI]; exact k1, by rw [upd_ne D.cI]; exact k2, r⟩
theorem FarSt.setF (D : FarD H0 p c I Fo) (h : FarSt H0 p c I Fo N As Fs H) {Fs' : List (List Str)} {rs' : List V} (hs : SidesAt H rs' Fs') (nf : ∀ A ∈ Fs', A ≠ []) : FarSt H0 p c I Fo N As Fs' (upd H Fo (.lst rs')) := by
  obtain ⟨rs, h1, h2⟩ := h.it
  obtain ⟨rf, h3, h4⟩ := h.fo
  have k : ∀ a F, F ≠ [] → H a = some (.lst (vS F)) → upd H Fo (.lst rs') a = some (.lst (vS F)) := fun a F hn ha => by rw [upd_ne (side_ne ha hn h3 h4.refs)]; exact ha
  refine ⟨⟨rs, by rw [upd_ne D.IF]; exact h1, h2.fr h.na k⟩, ⟨rs', upd_same, hs.fr nf k⟩, ?_, fun a o ha q => by rw [upd_ne (ne_of_none q D.nF)]; exact h.eb a o ha q, h.na, nf⟩
  obtain ⟨ns, go, gr, k1, k2, r⟩ := h.pn
  exact ⟨ns, go, gr, by rw [upd_ne D.pF]; exact k1, by rw [upd_ne D.cF]; exact k2, r⟩
end
section
variable {P : Program} {w : World} {K : PySem.W.Frag} {mg : Str → Option Value} {base : Heap} {CP CC CT : Addr}
def spFars : Sp := fun vs H Q _ => ∃ p c g N G, vs = [.ref p, .ref g] ∧ PenAt H p c N ∧ N ≤ 90000 ∧ TupS H g G ∧ HostsOk G ∧ G.length ≤ 13 ∧
  ∀ H' r rs Fs, ExtB p H H' → H r = none → H' r = some (.lst rs) → SidesAt H' rs Fs → (∀ F ∈ Fs, CutOk G F) → KM.AllCmp G Fs → Fs.length + 1 ≤ G.length → PenAt H' p c (N + 100) → Q (.ref r) H'
theorem sc__law_fars : FnScope ["_law_pen_here", "_law_grown", "_law_items", "_law_found", "_law_first", "_law_second", "_law_joined", "_law_name"] ["_law_pen_here", "_law_grown"] (fnScope (top 57)) := ⟨rfl, rfl, rfl, by decide +kernel, rfl, by decide +kernel, by decide +kernel⟩
theorem cal__law_fars (T : TX K mg CP CC CT) : Cal P w K mg base 3 "_law_fars" spFars [] := by
  refine cal_of T.d_fars sc__law_fars (fun _ _ _ _ _ _ us hl => match us, hl with | [_, _], _ => rfl) (fun vs H Q E h => by obtain ⟨_, _, _, _, _, rfl, _⟩ := h; rfl) fun f cdv A outer s H vs Q E hr h => ?_
  refine ⟨_, (pss_cons (ps_par (i := 2) (j := 3) (by rfl) sc__law_fars.nd rfl rfl (by decide) rfl rfl (pa_cons (pe_lc (own := [("_law_name", 7)]) (tt := tYes) rfl sc__law_fars.nd (pi_seq (pe_slice sl_seq (pv 1) (po_some pe_int) po_none)) (blkOk_by (N := ["_law_pen_here", "_law_grown", "_law_items", "_law_found", "_law_first", "_law_second", "_law_joined", "_law_name"]) (sc := fnScope (top 57)) (own := [("_law_name", 7)]) (by decide +kernel)) (fun _ _ _ _ _ => (pg_name (i := 7) sc__law_fars.nd rfl (Or.inl rfl))) (fun _ _ _ _ _ => pts_nil) (fun _ _ _ _ _ => (pe_lst (pa_cons (pv 7) pa_nil)))) (pa_cons (pe_lst pa_nil) pa_nil)) (by rfl))
      (pss_cons (ps_while PassesOwn.never (PW.pt (pw_and (pt_cmpR op_gt (pe_callB call_len (by rfl) (T.nb "len" (by decide)) (by decide +kernel) (pa_cons (pv 2) pa_nil)) pe_int mk) (pw_and1 (pt_cmpR op_gt (C8.pe_c (cal__law_draw T) hr (by decide) rfl (pa_cons (pv 0) (pa_cons pe_int pa_nil))) pe_int mk)))) (pss_cons (ps_set (i := 4) sc__law_fars.nd rfl (Or.inl rfl) (pe_bm PySem.F.plainAttrs_list PySem.F.slot_list_pop PySem.F.type_list_pop mt_popAt (pv 2) (pa_cons (C8.pe_c (cal__law_draw T) hr (by decide) rfl (pa_cons (pv 0) (pa_cons (pe_callB call_len (by rfl) (T.nb "len" (by decide)) (by decide +kernel) (pa_cons (pv 2) pa_nil)) pa_nil))) pa_nil)))
      (pss_cons (ps_set (i := 5) sc__law_fars.nd rfl (Or.inl rfl) (pe_bm PySem.F.plainAttrs_list PySem.F.slot_list_pop PySem.F.type_list_pop mt_popAt (pv 2) (pa_cons (C8.pe_c (cal__law_draw T) hr (by decide) rfl (pa_cons (pv 0) (pa_cons (pe_callB call_len (by rfl) (T.nb "len" (by decide)) (by decide +kernel) (pa_cons (pv 2) pa_nil)) pa_nil))) pa_nil)))
      (pss_cons (ps_set (i := 6) sc__law_fars.nd rfl (Or.inl rfl) (pe_callB cr_sortedS (by rfl) (T.nb "sorted" (by decide)) (by decide +kernel) (pa_cons (pe_lc (own := [("_law_name", 7)]) (tt := tYes) rfl sc__law_fars.nd (pi_seq (pe_op op_cat (pv 4) (pv 5))) (blkOk_by (N := ["_law_pen_here", "_law_grown", "_law_items", "_law_found", "_law_first", "_law_second", "_law_joined", "_law_name"]) (sc := fnScope (top 57)) (own := [("_law_name", 7)]) (by decide +kernel)) (fun _ _ _ _ _ => (pg_name (i := 7) sc__law_fars.nd rfl (Or.inl rfl))) (fun _ _ _ _ _ => pts_nil) (fun _ _ _ _ _ => (pe_callTy call_str_str (by rfl) (T.nb "str" (by decide)) (by decide +kernel) (pa_cons (pv 7) pa_nil)))) pa_nil)))
      (pss_cons (ps_expr (pe_bm PySem.F.plainAttrs_list PySem.F.slot_list_append PySem.F.type_list_append mt_append (pv 2) (pa_cons (pv 6) pa_nil)))
      (pss_one (ps_if (PW.pt (pw_and (pt_cmpR op_lt (pe_callB call_len (by rfl) (T.nb "len" (by decide)) (by decide +kernel) (pa_cons (pv 6) pa_nil)) (pe_op op_sub (pe_callB call_len (by rfl) (T.nb "len" (by decide)) (by decide +kernel) (pa_cons (pv 1) pa_nil)) pe_int) mk) (pw_and1 (pt_cmpR op_gt (C8.pe_c (cal__law_draw T) hr (by decide) rfl (pa_cons (pv 0) (pa_cons pe_int pa_nil))) pe_int mk)))) (pss_one (ps_expr (pe_bm PySem.F.plainAttrs_list PySem.F.slot_list_append PySem.F.type_list_append mt_append (pv 3) (pa_cons (pv 6) pa_nil)))) pss_nil)))))))
      (pss_one (ps_ret (C8.pe_c (cal__law_mixed T) hr (by decide) rfl (pa_cons (pv 0) (pa_cons (pv 3) pa_nil))))))), ?_⟩
  obtain ⟨p, c, g, N, G, rfl, hp, hN, hg, hG, h13, q⟩ := h
  obtain ⟨g0, t, rfl⟩ : ∃ g0 t, G = g0 :: t := by
    match G, hG.n1 with
    | x :: r, _ => exact ⟨x, r, rfl⟩
  dsimp only [tNext, tRet, tCB, tCons, tNil, tC, tSeq, tIfS, tTest, tNot, tOr, tAnd, tB, tAndV, tOrV, tNotV, tIf, tDrop, tOp, tChain, rI0, tTup, tLst, tCall, tMeth, tMake, tProp, tFld, sFld, tAsg, gName, tYes, List.map, tNever, tPar, cxK, cxw, cxnK, cxnw, List.singleton_append, List.append_nil, List.cons_append, List.nil_append]
  refine tlc_of ?_
  refine ⟨_, rfl, _, rfl, slq_of hg.sq fun p1 H1 e1 hs => ?_⟩
  rw [show (1 : Int) = ((1 : Nat) : Int) from rfl, cut_lo] at hs
  have hs : Sq K H1 p1 (vS t) := hs
  have lt : t.length ≤ 12 := by simpa using h13
  refine iseq_of hs fun J st ov hst => ?_
  refine lc_rel ov (fun D x y H' => ∃ s b, x = .str s ∧ y = .ref b ∧ b ≠ D ∧ H' b = some (.lst (vS [s]))) hst (vS40 (by omega)) (fun D x y H3 H4 l hD e h => ?_) (fun D l x H3 M hx hD hl e hM => ?_) fun I H2 rs hI e2 hl hR => ?_
  · obtain ⟨s, b, rfl, rfl, nb, hb⟩ := h
    exact ⟨s, b, rfl, rfl, nb, e _ _ nb hb⟩
  · obtain ⟨z, hz, rfl⟩ := List.mem_map.mp hx
    refine ⟨_, rfl, by show 1 ≤ sizeLine; decide, fun b hb => hM _ _ (Ext.upd hb) ⟨z, b, rfl, rfl, (fun e => by rw [e, hl] at hb; cases hb), upd_same⟩⟩
  refine ⟨by decide, fun Fo hFo => ⟨_, _, rfl, ?_⟩⟩
  have e12 := e1.trans e2
  have e3 := Ext.upd (o := .lst []) hFo
  have E3 := e12.trans e3
  have hI0 : H I = none := extFree e1 hI
  have hF0 : H Fo = none := extFree e12 hFo
  have IF : I ≠ Fo := fun e => by rw [e, hFo] at hl; cases hl
  have D : FarD H p c I Fo := by
    obtain ⟨ns, go, gr, k1, k2, r⟩ := hp
    exact ⟨ne_of_none k1 hI0, ne_of_none k1 hF0, IF, ne_of_none k2 hI0, ne_of_none k2 hF0, hI0, hF0⟩
  have sd0 : SidesAt (upd H2 Fo (.lst [])) rs (t.map fun s => [s]) := by
    clear hl
    have : ∀ {l : List Str} {rs : List V}, All2 (fun x y => ∃ s b, x = V.str s ∧ y = .ref b ∧ b ≠ I ∧ H2 b = some (.lst (vS [s]))) (vS l) rs → SidesAt H2 rs (l.map fun s => [s]) := by
      intro l
      induction l with
      | nil => intro rs h; cases h; exact .nil
      | cons x r ih =>
        intro rs h
        cases h with
        | cons h1 h2 =>
          obtain ⟨s, b, e, rfl, _, hb⟩ := h1
          injection e with e
          subst e
          exact .cons ⟨b, rfl, hb⟩ (ih h2)
    exact (this hR).ext e3
  have gp : g ≠ p := hp.ne hg fun _ _ _ z => by cases z
  have lam0 : Lam t (t.map fun s => [s]) [] := by
    have at' : Asc t := (List.pairwise_cons.mp hG.a).2
    refine ⟨fun A hA => ?_, ?_, fun F h => absurd h (by simp), fun F h => absurd h (by simp), fun F h => absurd h (by simp)⟩
    · obtain ⟨s, hs, rfl⟩ := List.mem_map.mp hA
      exact ⟨List.pairwise_singleton _ _, by simp, fun x hx => by rw [List.mem_singleton.mp hx]; exact hs⟩
    · rw [List.pairwise_map]
      exact at'.nodup.imp fun {a b} h x hx k => h (by rw [← List.mem_singleton.mp hx, List.mem_singleton.mp k])
  let W : Nat → L2.St → Hp → Prop := fun m σ H' => ∃ As Fs N' x4 x5 x6, m = As.length ∧ σ = [some (.ref p), some (.ref g), some (.ref I), some (.ref Fo), x4, x5, x6, none] ∧ FarSt H p c I Fo N' As Fs H' ∧ Lam t As Fs ∧ N' + 4 * As.length ≤ N + 4 * t.length ∧ Fs.length + As.length ≤ t.length
  have out : ∀ (As Fs : List (List Str)) (N' : Nat) (H' : Hp) (x4 x5 x6 : Option V), FarSt H p c I Fo N' As Fs H' → Lam t As Fs → N' ≤ N + 4 * t.length + 1 → Fs.length ≤ t.length →
      tCall (spMixed K) [] C8.E0 (tCons (tVar 0) (tCons (tVar 3) tNil)) [some (.ref p), some (.ref g), some (.ref I), some (.ref Fo), x4, x5, x6, none] H' Q := by
    intro As Fs N' H' x4 x5 x6 st lam bN bF
    obtain ⟨rf, hf, sf⟩ := st.fo
    have lf : rf.length = Fs.length := sf.length.symm
    dsimp only [tNext, tRet, tCB, tCons, tNil, tC, tSeq, tIfS, tTest, tNot, tOr, tAnd, tB, tAndV, tOrV, tNotV, tIf, tDrop, tOp, tChain, rI0, tTup, tLst, tCall, tMeth, tMake, tProp, tFld, sFld, tAsg, gName, tYes, List.map, tNever, tPar, cxK, cxw, cxnK, cxnw, List.singleton_append, List.append_nil, List.cons_append, List.nil_append]
    refine ⟨_, rfl, _, rfl, p, c, Fo, rf, N', rfl, st.pn, by omega, .lst hf, by omega, fun H6 r ys e6 hr hys pm pn6 => ?_⟩
    obtain ⟨Fs', pf, sf'⟩ := All2.perm_l pm.symm sf
    have hcut := lam.cutOk hG
    have sf6 : SidesAt H6 ys Fs' := SidesAt.fr sf' (fun F hF => st.nf F (pf.mem_iff.mpr hF)) fun a F hn ha => e6 _ _ (side_pen ha st.pn) ha
    refine q H6 r ys Fs' (fun a o ha h => e6 a o ha (st.eb a o ha h)) ?_ hys sf6 (fun F hF => hcut.1 F (pf.mem_iff.mpr hF)) (fun F hF F' hF' => hcut.2 F (pf.mem_iff.mpr hF) F' (pf.mem_iff.mpr hF')) ?_ (pn6.mono (by omega))
    · cases z : H r with
      | none => rfl
      | some o =>
        by_cases rp : r = p
        · obtain ⟨ns, go, gr, k1, _⟩ := st.pn
          rw [rp, k1] at hr; cases hr
        · rw [st.eb _ _ rp z] at hr; cases hr
    · rw [← pf.length_eq, List.length_cons]; omega
  refine ⟨W, ⟨_, t.map fun s => [s], [], N, none, none, none, rfl, rfl, ⟨⟨rs, e3 _ _ hl, sd0⟩, ⟨[], upd_same, .nil⟩, hp.ext E3, fun a o _ h => E3 _ _ h, fun A hA => (lam0.a A hA).2.1, fun F h => absurd h (by simp)⟩, lam0, by rw [List.length_map]; omega, by simp⟩, ?_⟩
  rintro m σ H4 ⟨As, Fs, N4, x4, x5, x6, rfl, rfl, st4, lam, bN, bF⟩
  obtain ⟨rsI, hI4, sI4⟩ := st4.it
  have lI : rsI.length = As.length := sI4.length.symm
  refine ⟨_, rfl, _, _, rfl, .inl ⟨_, .of hI4, rfl⟩, _, _, rfl, rfl, ?_⟩
  by_cases h2 : 1 < As.length
  · refine ⟨true, dt (by omega), iteT ?_⟩
    refine ⟨_, rfl, p, c, _, N4, rfl, st4.pn, by omega, by decide, by decide, fun H5 d5 e5 pn5 d50 d51 => ?_⟩
    have st5 := st4.draw D e5 pn5
    refine ⟨_, _, rfl, rfl, ?_⟩
    by_cases hd : 0 < d5
    · refine ⟨true, dt hd, iteT ?_⟩
      refine ⟨W (As.length - 1), fun σ' H' h => ⟨As.length - 1, by omega, h⟩, ?_⟩
      -- the first
      obtain ⟨rs5, hI5, sI5⟩ := st5.it
      have l5 : rs5.length = As.length := sI5.length.symm
      refine ⟨_, rfl, .inl ⟨rfl, _, .of hI5⟩, _, rfl, _, rfl, _, _, rfl, .inl ⟨_, .of hI5, rfl⟩, ?_⟩
      refine ⟨p, c, _, N4 + 1, rfl, st5.pn, by omega, by omega, by omega, fun H6 d6 e6 pn6 d60 d61 => ?_⟩
      have st6 := st5.draw D e6 pn6
      obtain ⟨k, rfl⟩ : ∃ k : Nat, d6 = (k : Int) := ⟨d6.toNat, by omega⟩
      have hk : k < rs5.length := by omega
      have hI6 := e6 _ _ D.pI.symm hI5
      have sI6 : SidesAt H6 rs5 As := sI5.fr st5.na fun a F _ ha => e6 _ _ (side_pen ha st5.pn) ha
      refine ⟨I, rs5, _, k, rs5[k], rfl, rfl, hI6, by omega, by omega, seqIx hk, by simp [hk], ?_⟩
      obtain ⟨A, hA, a, ea, ha⟩ := All2.get sI6 (List.getElem?_eq_getElem hk)
      have pA : As.Perm (A :: As.eraseIdx k) := by
        have hkA : k < As.length := by omega
        rw [List.getElem?_eq_getElem hkA] at hA
        injection hA with hA
        rw [← hA]; exact (erase_perm hkA).symm
      have neA : A ≠ [] := st6.na A (pA.mem_iff.mpr List.mem_cons_self)
      have sI7 := sI6.eraseIdx k
      have na7 : ∀ B ∈ As.eraseIdx k, B ≠ [] := fun B hB => st6.na B (pA.mem_iff.mpr (List.mem_cons_of_mem _ hB))
      have st7 := st6.setI D sI7 na7
      rw [ea]
      have ha7 : (upd H6 I (.lst (rs5.eraseIdx k))) a = some (.lst (vS A)) := by rw [upd_ne (side_ne ha neA hI6 sI6.refs)]; exact ha
      generalize upd H6 I (.lst (rs5.eraseIdx k)) = H7 at *
      clear sI7 na7 hI6 sI6 ea hI5 sI5 ha
      have lA1 : (As.eraseIdx k).length + 1 = As.length := by have := pA.length_eq; rw [List.length_cons] at this; omega
      have lam1 := lam.perm pA.symm
      generalize As.eraseIdx k = As1 at *
      -- the second
      obtain ⟨rs7, hI7, sI7⟩ := st7.it
      have l7 : rs7.length = As1.length := sI7.length.symm
      refine ⟨_, rfl, .inl ⟨rfl, _, .of hI7⟩, _, rfl, _, rfl, _, _, rfl, .inl ⟨_, .of hI7, rfl⟩, ?_⟩
      refine ⟨p, c, _, N4 + 1 + 1, rfl, st7.pn, by omega, by omega, by omega, fun H8 d8 e8 pn8 d80 d81 => ?_⟩
      have st8 := st7.draw D e8 pn8
      obtain ⟨k2, rfl⟩ : ∃ k2 : Nat, d8 = (k2 : Int) := ⟨d8.toNat, by omega⟩
      have hk2 : k2 < rs7.length := by omega
      have hI8 := e8 _ _ D.pI.symm hI7
      have sI8 : SidesAt H8 rs7 As1 := sI7.fr st7.na fun a F _ ha => e8 _ _ (side_pen ha st7.pn) ha
      have ha8 := e8 _ _ (side_pen ha7 st7.pn) ha7
      refine ⟨I, rs7, _, k2, rs7[k2], rfl, rfl, hI8, by omega, by omega, seqIx hk2, by simp [hk2], ?_⟩
      obtain ⟨B, hB, b, eb, hb⟩ := All2.get sI8 (List.getElem?_eq_getElem hk2)
      have pB : As1.Perm (B :: As1.eraseIdx k2) := by
        have hkA : k2 < As1.length := by omega
        rw [List.getElem?_eq_getElem hkA] at hB
        injection hB with hB
        rw [← hB]; exact (erase_perm hkA).symm
      have neB : B ≠ [] := st8.na B (pB.mem_iff.mpr List.mem_cons_self)
      have sI9 := sI8.eraseIdx k2
      have na9 : ∀ C ∈ As1.eraseIdx k2, C ≠ [] := fun C hC => st8.na C (pB.mem_iff.mpr (List.mem_cons_of_mem _ hC))
      have st9 := st8.setI D sI9 na9
      rw [eb]
      have ha9 : (upd H8 I (.lst (rs7.eraseIdx k2))) a = some (.lst (vS A)) := by rw [upd_ne (side_ne ha8 neA hI8 sI8.refs)]; exact ha8
      have hb9 : (upd H8 I (.lst (rs7.eraseIdx k2))) b = some (.lst (vS B)) := by rw [upd_ne (side_ne hb neB hI8 sI8.refs)]; exact hb
      generalize upd H8 I (.lst (rs7.eraseIdx k2)) = H9 at *
      clear sI9 na9 hI8 sI8 eb hI7 sI7 hb
      have lA2 : (As1.eraseIdx k2).length + 1 = As1.length := by have := pB.length_eq; rw [List.length_cons] at this; omega
      have lam2 : Lam t (A :: B :: As1.eraseIdx k2) Fs := lam1.perm (.cons _ pB.symm)
      generalize As1.eraseIdx k2 = As2 at *
      -- joined
      have oA := lam2.a A (by simp)
      have oB := lam2.a B (by simp)
      have dAB : Dj A B := (List.pairwise_cons.mp lam2.d).1 B (by simp)
      have nAB : (A ++ B).Nodup := List.nodup_append.mpr ⟨oA.1.nodup, oB.1.nodup, fun x hx y hy e => dAB x hx (e ▸ hy)⟩
      have lAB : (A ++ B).length ≤ 12 := by
        refine Nat.le_trans (nAB.length_le_of_subset (l₂ := t) fun x hx => ?_) lt
        rcases List.mem_append.mp hx with h | h
        · exact oA.2.2 x h
        · exact oB.2.2 x h
      have lAB' : (vS A).length + (vS B).length ≤ sizeLine := by
        rw [List.length_map, List.length_map, ← List.length_append]; exact Nat.le_trans lAB (by decide)
      dsimp only [tNext, tRet, tCB, tCons, tNil, tC, tSeq, tIfS, tTest, tNot, tOr, tAnd, tB, tAndV, tOrV, tNotV, tIf, tDrop, tOp, tChain, rI0, tTup, tLst, tCall, tMeth, tMake, tProp, tFld, sFld, tAsg, gName, tYes, List.map, tNever, tPar, cxK, cxw, cxnK, cxnw, List.singleton_append, List.append_nil, List.cons_append, List.nil_append]
      refine tlc_of ?_
      refine ⟨_, rfl, _, rfl, a, b, vS A, vS B, rfl, rfl, ha9, hb9, lAB', fun pc hpc => ?_⟩
      rw [← List.map_append]
      have e10 := Ext.upd (o := .lst (vS (A ++ B))) hpc
      refine iseq_of (Sq.lst upd_same) fun J st ov hst => ?_
      refine lc_map ov id hst (vS40 (by omega)) (fun v H4 M hv e hM => ?_) fun D11 H11 hD11 e11 hl11 => ?_
      · obtain ⟨x, hx, rfl⟩ := List.mem_map.mp hv
        exact ⟨_, rfl, x, rfl, hM _ Ext.rfl'⟩
      refine ⟨D11, A ++ B, rfl, SqL.of (by rw [hl11]; simp), Nat.lt_of_le_of_lt (show (A ++ B).length ≤ 40 by omega) (by decide), fun J p5 hpm hso hp5 => ?_⟩
      have e12 := (e10.trans e11).trans (Ext.upd (o := .lst (vS J)) hp5)
      have hJ12 : (upd H11 p5 (.lst (vS J))) p5 = some (.lst (vS J)) := upd_same
      have st12 := st9.ext e12
      generalize upd H11 p5 (.lst (vS J)) = H12 at *
      have aJ : Asc J := asc_of hso (hpm.nodup_iff.mpr nAB)
      have lJ : J.length ≤ 12 := by rw [hpm.length_eq]; exact lAB
      obtain ⟨lam3, lam4⟩ := lam2.step aJ hpm
      have neJ : J ≠ [] := (lam3.a J (by simp)).2.1
      obtain ⟨rs12, hI12, sI12⟩ := st12.it
      have l12 : rs12.length = As2.length := sI12.length.symm
      refine ⟨_, rfl, .inl ⟨rfl, _, .of hI12⟩, _, rfl, I, rs12, _, rfl, rfl, hI12, Nat.lt_of_le_of_lt (show rs12.length ≤ 40 by omega) (by decide), ?_⟩
      have sI13 : SidesAt H12 (rs12 ++ [.ref p5]) (As2 ++ [J]) := sI12.append (.cons ⟨p5, rfl, hJ12⟩ .nil)
      have na13 : ∀ C ∈ As2 ++ [J], C ≠ [] := fun C hC => (lam3.a C hC).2.1
      have st13 := st12.setI D sI13 na13
      have hJ13 : (upd H12 I (.lst (rs12 ++ [.ref p5]))) p5 = some (.lst (vS J)) := by rw [upd_ne (side_ne hJ12 neJ hI12 sI12.refs)]; exact hJ12
      generalize upd H12 I (.lst (rs12 ++ [.ref p5])) = H13 at *
      clear sI13 na13 hI12 sI12
      have hg13 : TupS H13 g (g0 :: t) := st13.eb _ _ gp hg
      have lAs : (As2 ++ [J]).length = As.length - 1 := by rw [List.length_append, List.length_singleton]; omega
      refine ⟨_, rfl, _, _, rfl, .inl ⟨_, .of hJ13, rfl⟩, _, rfl, _, _, rfl, .inr ⟨_, hg13.t, rfl⟩, _, _, rfl, rfl, _, _, rfl, rfl, ?_⟩
      have lg : ((vS (g0 :: t)).length : Int) - 1 = (t.length : Int) := by rw [List.length_map, List.length_cons]; omega
      rw [lg, List.length_map]
      by_cases hJl : (J.length : Int) < (t.length : Int)
      · refine ⟨true, dt hJl, iteT ?_⟩
        refine ⟨_, rfl, p, c, _, N4 + 1 + 1 + 1, rfl, st13.pn, by omega, by decide, by decide, fun H14 d14 e14 pn14 d140 d141 => ?_⟩
        have st14 := st13.draw D e14 pn14
        have hJ14 := e14 _ _ (side_pen hJ13 st13.pn) hJ13
        refine ⟨_, _, rfl, rfl, ?_⟩
        by_cases hd4 : 0 < d14
        · refine ⟨true, dt hd4, iteT ?_⟩
          obtain ⟨rf, hF14, sF14⟩ := st14.fo
          have lf : rf.length = Fs.length := sF14.length.symm
          refine ⟨_, rfl, .inl ⟨rfl, _, .of hF14⟩, _, rfl, Fo, rf, _, rfl, rfl, hF14, Nat.lt_of_le_of_lt (show rf.length ≤ 40 by omega) (by decide), ?_⟩
          have st15 := st14.setF D (sF14.append (.cons ⟨p5, rfl, hJ14⟩ .nil)) (Fs' := Fs ++ [J]) (fun F hF => by
            rcases List.mem_append.mp hF with h | h
            · exact st14.nf F h
            · rw [List.mem_singleton.mp h]; exact neJ)
          exact ⟨As2 ++ [J], Fs ++ [J], _, _, _, _, lAs.symm, rfl, st15, lam4 (by omega), by omega, by rw [List.length_append, List.length_singleton]; omega⟩
        · refine ⟨false, df hd4, iteF ?_⟩
          exact ⟨As2 ++ [J], Fs, _, _, _, _, lAs.symm, rfl, st14, lam3, by omega, by omega⟩
      · refine ⟨false, df hJl, iteF (iteF ?_)⟩
        exact ⟨As2 ++ [J], Fs, _, _, _, _, lAs.symm, rfl, st13, lam3, by omega, by omega⟩
    · refine ⟨false, df hd, iteF ?_⟩
      exact out As Fs (N4 + 1) H5 x4 x5 x6 st5 lam (by omega) (by omega)
  · refine ⟨false, df (by omega), iteF ?_⟩
    exact out As Fs N4 H4 x4 x5 x6 st4 lam (by omega) (by omega)
end
end G
end

section
set_option linter.all false
/-! all sides; a cut's partings -/
namespace G
open PySem PySem.Spec PyProof.Rows
def subsT (t : List Str) : List (List Str) := t.foldl (fun acc n => acc ++ acc.map (· ++ [n])) [[]]
theorem subsT_snoc (t : List Str) (n : Str) : subsT (t ++ [n]) = subsT t ++ (subsT t).map (· ++ [n]) := by
  unfold subsT; rw [List.foldl_append]; rfl
theorem snoc_ind {α : Type} {P : List α → Prop} (h0 : P []) (h1 : ∀ l x, P l → P (l ++ [x])) (l : List α) : P l := by
  have : ∀ l : List α, P l.reverse := by
    intro l
    induction l with
    | nil => exact h0
    | cons x r ih => rw [List.reverse_cons]; exact h1 _ _ ih
  have h := this l.reverse
  rwa [List.reverse_reverse] at h
theorem mem_subs {t F : List Str} : F ∈ subsT t ↔ F.Sublist t := by
  revert F
  refine snoc_ind (P := fun t => ∀ {F : List Str}, F ∈ subsT t ↔ F.Sublist t) ?_ ?_ t
  · intro F; simp [subsT]
  · intro t n ih F
    rw [subsT_snoc, List.mem_append, List.mem_map, List.sublist_append_iff]
    constructor
    · rintro (h | ⟨F', h, rfl⟩)
      · exact ⟨F, [], by simp, ih.mp h, by simp⟩
      · exact ⟨F', [n], rfl, ih.mp h, .refl _⟩
    · rintro ⟨l1, l2, rfl, h1, h2⟩
      match l2, h2 with
      | [], _ => exact .inl (by simpa using ih.mpr h1)
      | [x], h2 =>
        have : x = n := by simpa using h2
        subst this
        exact .inr ⟨l1, ih.mpr h1, rfl⟩
      | x :: y :: r, h2 => have := h2.length_le; simp at this
theorem len_subs (t : List Str) : (subsT t).length = 2 ^ t.length := by
  refine snoc_ind (P := fun t => (subsT t).length = 2 ^ t.length) rfl (fun t n ih => ?_) t
  rw [subsT_snoc, List.length_append, List.length_map, ih, List.length_append, List.length_singleton, Nat.pow_succ]; omega
def okLen (n : Nat) (F : List Str) : Bool := decide (2 ≤ F.length) && decide (F.length + 2 ≤ n)
def allF : List Str → List (List Str)
  | [] => []
  | g :: t => (subsT t).filter (okLen (t.length + 1))
theorem allF_ok {G F : List Str} (hG : HostsOk G) (h : F ∈ allF G) : CutOk G F := by
  match G, h with
  | g :: t, h =>
    obtain ⟨h1, h2⟩ := List.mem_filter.mp h
    have hs := mem_subs.mp h1
    unfold okLen at h2
    rw [Bool.and_eq_true, decide_eq_true_iff, decide_eq_true_iff] at h2
    have at' := (List.pairwise_cons.mp hG.a).2
    have aF : Asc F := List.Pairwise.sublist hs at'
    have sub : ∀ x ∈ F, x ∈ g :: t := fun x hx => List.mem_cons_of_mem _ (hs.subset hx)
    have := (near_perm hG.a aF sub).length_eq
    rw [List.length_append, List.length_cons] at this
    refine ⟨hG.a, aF, sub, h2.1, by omega, hG.l40, hG.g, fun g' r e hg => ?_⟩
    injection e with e1 e2
    subst e1
    exact (List.nodup_cons.mp hG.a.nodup).1 (hs.subset hg)
theorem allF_all {G F : List Str} (ok : CutOk G F) : F ∈ allF G := by
  match G, ok with
  | [], ok => have := ok.n2; simp [nearOf] at this
  | g :: t, ok =>
    have hg : g ∉ F := ok.h g t rfl
    have at' := (List.pairwise_cons.mp ok.aG).2
    have hs : F.Sublist t := KM.asc_sub lo_sl ok.aF at' fun x hx => by
      rcases List.mem_cons.mp (ok.sub x hx) with e | k
      · exact absurd (e ▸ hx) hg
      · exact k
    have := (near_perm ok.aG ok.aF ok.sub).length_eq
    rw [List.length_append, List.length_cons] at this
    have n2 := ok.n2
    have f2 := ok.f2
    refine List.mem_filter.mpr ⟨mem_subs.mpr hs, ?_⟩
    unfold okLen
    rw [Bool.and_eq_true, decide_eq_true_iff, decide_eq_true_iff]
    exact ⟨f2, by omega⟩
/-! ### the partings that a cut makes -/
def mkPt (x y u v : Str) : Pt := if sl x u then ⟨x, y, u, v⟩ else ⟨u, v, x, y⟩
def made3 (f y : Str) (F : List Str) (m : Nat) : List Pt := (F.take m).map fun s => mkPt f y s (F.getD m Str.empty)
def made2 (f y : Str) (F : List Str) (n : Nat) : List Pt := (List.range n).flatMap (made3 f y F)
def made1 (N F : List Str) (at' k : Nat) : List Pt := ((N.take at').take k).flatMap fun f => made2 f (N.getD at' Str.empty) F F.length
def made0 (N F : List Str) (n : Nat) : List Pt := (List.range n).flatMap fun at' => made1 N F at' at'
def madeL (G F : List Str) : List Pt := made0 (nearOf G F) F (nearOf G F).length
theorem asc_pair {l : List Str} (h : Asc l) {x y : Str} : (∃ i, i < l.length ∧ x ∈ l.take i ∧ y = l.getD i Str.empty) ↔ x ∈ l ∧ y ∈ l ∧ sl x y := by
  constructor
  · rintro ⟨i, hi, hx, rfl⟩
    have hy : l.getD i Str.empty = l[i] := by rw [List.getD_eq_getElem?_getD, List.getElem?_eq_getElem hi]; rfl
    rw [hy]
    obtain ⟨j, hj, e⟩ := List.mem_take_iff_getElem.mp hx
    have hj' : j < i ∧ j < l.length := by omega
    refine ⟨List.mem_of_mem_take hx, List.getElem_mem hi, ?_⟩
    rw [← e]
    exact List.pairwise_iff_getElem.mp h j i hj'.2 hi hj'.1
  · rintro ⟨hx, hy, hl⟩
    obtain ⟨j, hj, rfl⟩ := List.mem_iff_getElem.mp hx
    obtain ⟨i, hi, rfl⟩ := List.mem_iff_getElem.mp hy
    refine ⟨i, hi, List.mem_take_iff_getElem.mpr ⟨j, ?_, rfl⟩, by rw [List.getD_eq_getElem?_getD, List.getElem?_eq_getElem hi]; rfl⟩
    rcases Nat.lt_trichotomy j i with h1 | h1 | h1
    · omega
    · subst h1; exact absurd hl (sl_irr _)
    · exact absurd (List.pairwise_iff_getElem.mp h i j hi hj h1) (sl_asym hl)
theorem mem_made {G F : List Str} (ok : CutOk G F) {p : Pt} : p ∈ madeL G F ↔ ∃ x y u v, p = mkPt x y u v ∧ x ∈ nearOf G F ∧ y ∈ nearOf G F ∧ sl x y ∧ u ∈ F ∧ v ∈ F ∧ sl u v := by
  have aN : Asc (nearOf G F) := ok.aG.filter _
  unfold madeL made0 made1 made2 made3
  simp only [List.mem_flatMap, List.mem_map, List.mem_range]
  constructor
  · rintro ⟨i, hi, x, hx, j, hj, u, hu, rfl⟩
    rw [List.take_of_length_le (by simp; omega)] at hx
    obtain ⟨h1, h2, h3⟩ := (asc_pair aN).mp ⟨i, hi, hx, rfl⟩
    obtain ⟨k1, k2, k3⟩ := (asc_pair ok.aF).mp ⟨j, hj, hu, rfl⟩
    exact ⟨x, _, u, _, rfl, h1, h2, h3, k1, k2, k3⟩
  · rintro ⟨x, y, u, v, rfl, h1, h2, h3, k1, k2, k3⟩
    obtain ⟨i, hi, hx, rfl⟩ := (asc_pair aN).mpr ⟨h1, h2, h3⟩
    obtain ⟨j, hj, hu, rfl⟩ := (asc_pair ok.aF).mpr ⟨k1, k2, k3⟩
    exact ⟨i, hi, x, by rw [List.take_of_length_le (by simp; omega)]; exact hx, j, hj, u, hu, rfl⟩
theorem made_iff {G F : List Str} (ok : CutOk G F) {p : Pt} : p ∈ madeL G F ↔ p.Ord sl ∧ (∀ x ∈ KM.Pt.four p, x ∈ G) ∧ KM.makes F p := by
  rw [mem_made ok]
  constructor
  · rintro ⟨x, y, u, v, rfl, h1, h2, h3, k1, k2, k3⟩
    obtain ⟨h1, h1'⟩ := mem_near.mp h1
    obtain ⟨h2, h2'⟩ := mem_near.mp h2
    have xu : x ≠ u := fun e => h1' (e ▸ k1)
    unfold mkPt
    by_cases c : sl x u
    · rw [if_pos c]
      refine ⟨⟨h3, k3, c⟩, fun z hz => ?_, KM.makes_iff.mpr (by simp [h1', h2', k1, k2])⟩
      simp only [KM.Pt.four, List.mem_cons, List.not_mem_nil, or_false] at hz
      rcases hz with rfl | rfl | rfl | rfl
      · exact h1
      · exact h2
      · exact ok.sub _ k1
      · exact ok.sub _ k2
    · rw [if_neg c]
      refine ⟨⟨k3, h3, (sl_tot xu).resolve_left c⟩, fun z hz => ?_, KM.makes_iff.mpr (by simp [h1', h2', k1, k2])⟩
      simp only [KM.Pt.four, List.mem_cons, List.not_mem_nil, or_false] at hz
      rcases hz with rfl | rfl | rfl | rfl
      · exact ok.sub _ k1
      · exact ok.sub _ k2
      · exact h1
      · exact h2
  · rintro ⟨⟨o1, o2, o3⟩, hm, hk⟩
    obtain ⟨a, b, c, d⟩ := p
    have hk := KM.makes_iff.mp hk
    dsimp only at o1 o2 o3 hk
    have ga := hm a (by simp [KM.Pt.four])
    have gb := hm b (by simp [KM.Pt.four])
    have gc := hm c (by simp [KM.Pt.four])
    have gd := hm d (by simp [KM.Pt.four])
    by_cases ia : a ∈ F
    · have ib := hk.1.mp ia
      have ic : c ∉ F := fun h => hk.2.2 ⟨fun _ => h, fun _ => ia⟩
      have id : d ∉ F := fun h => ic (hk.2.1.mpr h)
      refine ⟨c, d, a, b, ?_, mem_near.mpr ⟨gc, ic⟩, mem_near.mpr ⟨gd, id⟩, o2, ia, ib, o1⟩
      unfold mkPt
      rw [if_neg (sl_asym o3)]
    · have ib : b ∉ F := fun h => ia (hk.1.mpr h)
      have ic : c ∈ F := Classical.byContradiction fun h => hk.2.2 ⟨fun z => absurd z ia, fun z => absurd z h⟩
      have id := hk.2.1.mp ic
      refine ⟨a, b, c, d, ?_, mem_near.mpr ⟨ga, ia⟩, mem_near.mpr ⟨gb, ib⟩, o1, ic, id, o2⟩
      unfold mkPt
      rw [if_pos o3]
end G
end

section
set_option Elab.async false
set_option linter.all false
set_option maxRecDepth 100000
set_option maxHeartbeats 1000000
/-! the law's cuts and their texts -/
namespace G
open PySem PySem.Spec PyProof.Rows L2
open C8 (fnScope fnBody fnArgs Cal Met Mak)
open SkE (call_str_str)
open StX (pa_star tStar)
open PySem.W (Tup)
theorem ix_tupK {X : Cx} (K : PySem.W.Frag) (h : X.K = K := by rfl) : IxR X (rIxT K) := by subst h; exact ix_tup
theorem atI_getD {l : List Str} {j : Nat} (h : j < l.length) : (vS l)[j]? = some (.str (l.getD j Str.empty)) := by
  rw [List.getElem?_map, List.getElem?_eq_getElem h, List.getD_eq_getElem?_getD, List.getElem?_eq_getElem h]; rfl
section
variable {P : Program} {w : World} {K : PySem.W.Frag} {mg : Str → Option Value} {base : Heap} {CP CC CT : Addr}
def spAllCuts (CC : Addr) : Sp := fun vs H Q _ => ∃ g G, vs = [.ref g] ∧ TupS H g G ∧ HostsOk G ∧ G.length ≤ 7 ∧ ∀ H' r us, Ext H H' → H r = none → H' r = some (.lst us) → CutsAt CC H' us G (allF G) → Q (.ref r) H'
theorem sc__law_all_cuts : FnScope ["_law_grown", "_law_found", "_law_sides", "_law_name", "_law_side"] ["_law_grown"] (fnScope (top 62)) := ⟨rfl, rfl, rfl, by decide +kernel, rfl, by decide +kernel, by decide +kernel⟩
theorem cal__law_all_cuts (T : TX K mg CP CC CT) : Cal P w K mg base 6 "_law_all_cuts" (spAllCuts CC) [] := by
  refine cal_of T.d_all_cuts sc__law_all_cuts (fun _ _ _ _ _ _ us hl => match us, hl with | [_], _ => rfl) (fun vs H Q E h => by obtain ⟨_, _, rfl, _⟩ := h; rfl) fun f cdv A outer s H vs Q E hr h => ?_
  refine ⟨_, (pss_cons (ps_par (i := 1) (j := 2) (by rfl) sc__law_all_cuts.nd rfl rfl (by decide) rfl rfl (pa_cons (pe_lst pa_nil) (pa_cons (pe_lst (pa_cons (pe_lst pa_nil) pa_nil)) pa_nil)) (by rfl))
      (pss_cons (ps_for PassesOwn.never rfl (pi_seq (pe_slice sl_seq (pv 0) (po_some pe_int) po_none)) (pg_name (i := 3) sc__law_all_cuts.nd rfl (Or.inr rfl)) (pss_one (ps_set (i := 2) sc__law_all_cuts.nd rfl (Or.inl rfl) (pe_op op_cat (pv 2) (pe_lc (own := [("_law_side", 4)]) (tt := tYes) rfl sc__law_all_cuts.nd (pi_seq (pv 2)) (blkOk_by (N := ["_law_grown", "_law_found", "_law_sides", "_law_name", "_law_side"]) (sc := fnScope (top 62)) (own := [("_law_side", 4)]) (by decide +kernel)) (fun _ _ _ _ _ => (pg_name (i := 4) sc__law_all_cuts.nd rfl (Or.inl rfl))) (fun _ _ _ _ _ => pts_nil) (fun _ _ _ _ _ => (pe_op op_cat (pv 4) (pe_lst (pa_cons (pv 3) pa_nil)))))))))
      (pss_cons (ps_for PassesOwn.never rfl (pi_seq (pv 2)) (pg_name (i := 4) sc__law_all_cuts.nd rfl (Or.inl rfl)) (pss_one (ps_if (pt_chain op_le op_le pe_int (pe_callB call_len (by rfl) (T.nb "len" (by decide)) (by decide +kernel) (pa_cons (pv 4) pa_nil)) (pe_op op_sub (pe_callB call_len (by rfl) (T.nb "len" (by decide)) (by decide +kernel) (pa_cons (pv 0) pa_nil)) pe_int)) (pss_one (ps_expr (pe_bm PySem.F.plainAttrs_list PySem.F.slot_list_append PySem.F.type_list_append mt_append (pv 1) (pa_cons (C8.pe_c (cal__law_cut T) hr (by decide) rfl (pa_cons (pv 0) (pa_cons (pv 4) pa_nil))) pa_nil)))) pss_nil)))
      (pss_one (ps_ret (pv 1)))))), ?_⟩
  obtain ⟨g, G, rfl, hg, hG, h7, q⟩ := h
  obtain ⟨g0, t, rfl⟩ : ∃ g0 t, G = g0 :: t := by
    match G, hG.n1 with
    | x :: r, _ => exact ⟨x, r, rfl⟩
  have lt : t.length ≤ 6 := by simpa using h7
  dsimp only [tNext, tRet, tCB, tCons, tNil, tC, tSeq, tIfS, tTest, tNot, tOr, tAnd, tB, tAndV, tOrV, tNotV, tIf, tDrop, tOp, tChain, rI0, tTup, tLst, tCall, tMeth, tMake, tProp, tFld, sFld, tAsg, gName, tYes, List.map, tNever, tPar, cxK, cxw, cxnK, cxnw, List.singleton_append, List.append_nil, List.cons_append, List.nil_append]
  refine ⟨by decide, fun Fo hFo => ⟨by decide, fun E0 hE0 => ⟨by show 1 ≤ sizeLine; decide, fun S0 hS0 => ⟨_, _, rfl, ?_⟩⟩⟩⟩
  have e1 := Ext.upd (o := .lst []) hFo
  have e2 := Ext.upd (o := .lst []) hE0
  have e3 := Ext.upd (o := .lst [.ref E0]) hS0
  have E3 := (e1.trans e2).trans e3
  have EFo : E0 ≠ Fo := fun e => by rw [e, upd_same] at hE0; cases hE0
  have hF3 := (e2.trans e3) _ _ (upd_same (H := H) (a := Fo) (o := .lst []))
  have hs3 : SidesAt (upd (upd (upd H Fo (.lst [])) E0 (.lst [])) S0 (.lst [.ref E0])) [.ref E0] [[]] := .cons ⟨E0, rfl, e3 _ _ upd_same⟩ .nil
  have hS3 : (upd (upd (upd H Fo (.lst [])) E0 (.lst [])) S0 (.lst [.ref E0])) S0 = some (.lst [.ref E0]) := upd_same
  generalize upd (upd (upd H Fo (.lst [])) E0 (.lst [])) S0 (.lst [.ref E0]) = H3 at *
  refine tfor_of ?_
  refine ⟨_, rfl, _, rfl, slq_of (TupS.sq (E3 _ _ hg)) fun p4 H4 e4 hs => ?_⟩
  rw [show (1 : Int) = ((1 : Nat) : Int) from rfl, cut_lo] at hs
  have hs : Sq K H4 p4 (vS t) := hs
  refine iseq_of hs fun J st ov hst => ?_
  have two : ∀ l : List Str, l.length ≤ 6 → 2 ^ l.length ≤ 64 := fun l h => Nat.le_trans (Nat.pow_le_pow_right (by decide) h) (by decide)
  refine for_over ov (fun j σ' H' => Ext H4 H' ∧ ∃ S rs x, σ' = [some (.ref g), some (.ref Fo), some (.ref S), x, none] ∧ H' S = some (.lst rs) ∧ SidesAt H' rs (subsT (t.take j)) ∧ ∀ r ∈ rs, r ≠ .ref Fo) ⟨Ext.rfl', S0, _, none, rfl, e4 _ _ hS3, hs3.ext e4, fun r hr e => by rw [List.mem_singleton.mp hr] at e; injection e with e; exact EFo e⟩ (fun j σ' H' w => hst _ w.1) (fun j σ' H5 x w hx => ?_) fun σ' H5 w => ?_
  · obtain ⟨e5, S, rs, x0, rfl, hS, hsd, hnF⟩ := w
    obtain ⟨z, hz, hzx⟩ : ∃ z, t[j]? = some z ∧ x = .str z := by
      rw [List.getElem?_map] at hx
      cases e : t[j]? with
      | none => rw [e] at hx; cases hx
      | some z => rw [e] at hx; cases hx; exact ⟨z, rfl, rfl⟩
    subst hzx
    have lrs : rs.length ≤ 64 := by rw [← hsd.length, len_subs]; exact two _ (by rw [List.length_take]; omega)
    refine ⟨_, rfl, ?_⟩
    refine tlc_of ?_
    refine ⟨_, rfl, iseq_of (Sq.lst hS) fun J st ov hst => ?_⟩
    refine lc_rel ov (fun D x y H' => ∃ b F, x = .ref b ∧ H5 b = some (.lst (vS F)) ∧ F.length ≤ 6 ∧ ∃ c, y = .ref c ∧ c ≠ D ∧ c ≠ Fo ∧ H' c = some (.lst (vS (F ++ [z])))) hst (Nat.le_trans lrs (by decide)) (fun D x y H3 H4 l hD e h => ?_) (fun D l x H6 M hx hD hl e hM => ?_) fun D H6 acc hD e6 hl hR => ?_
    · obtain ⟨b, F, rfl, hb, l6, c, e1, nc, nF, e2⟩ := h
      exact ⟨b, F, rfl, hb, l6, c, e1, nc, nF, e _ _ nc e2⟩
    · obtain ⟨F, hF, b, rfl, hb⟩ := All2.mem_l hsd hx
      have l6 : F.length ≤ 6 := by
        have := (mem_subs.mp hF).length_le
        rw [List.length_take] at this
        omega
      refine ⟨_, rfl, _, rfl, by show 1 ≤ sizeLine; decide, fun L hL => ?_⟩
      have eL := Ext.upd (o := .lst [.str z]) hL
      refine ⟨b, L, vS F, [.str z], rfl, rfl, eL _ _ (e _ _ hb), upd_same, by rw [List.length_map]; exact Nat.le_trans (show F.length + 1 ≤ 40 by omega) (by decide), fun c hc => ?_⟩
      have nc : c ≠ D := fun e' => by
        have := eL _ _ hl
        rw [← e', hc] at this; cases this
      refine hM _ _ (eL.trans (Ext.upd hc)) ⟨b, F, rfl, hb, l6, c, rfl, nc, (fun e' => by have := (((e4.trans e5).trans e).trans eL) _ _ hF3; rw [← e', hc] at this; cases this), ?_⟩
      rw [upd_same]; simp
    have hsd2 : SidesAt H6 acc ((subsT (t.take j)).map (· ++ [z])) := by
      clear hl ov
      revert hR
      generalize subsT (t.take j) = Fs at hsd
      unfold SidesAt at hsd
      clear hS lrs hnF
      induction hsd generalizing acc with
      | nil => intro h; cases h; exact .nil
      | cons r _ ih =>
        intro h
        cases h with
        | cons r' k' =>
          obtain ⟨a, rfl, ha⟩ := r
          obtain ⟨a', F', e, ha', _, c, rfl, _, _, hc⟩ := r'
          injection e with e
          subst e
          rw [ha] at ha'
          injection ha' with y
          injection y with y
          rw [vS_inj y]
          exact .cons ⟨c, rfl, hc⟩ (ih _ k')
    have lac : acc.length ≤ 64 := by rw [hR.length]; exact lrs
    refine ⟨S, D, rs, acc, rfl, rfl, e6 _ _ hS, hl, Nat.le_trans (show rs.length + acc.length ≤ 128 by omega) (by decide), fun S' hS' => ?_⟩
    have e7 := Ext.upd (o := .lst (rs ++ acc)) hS'
    have htk : t.take (j + 1) = t.take j ++ [z] := by rw [List.take_add_one, hz]; rfl
    refine ⟨(e5.trans e6).trans e7, S', rs ++ acc, _, rfl, upd_same, ?_⟩
    rw [htk, subsT_snoc]
    refine ⟨SidesAt.ext ((hsd.ext e6).append hsd2) e7, fun r hr => ?_⟩
    rcases List.mem_append.mp hr with h | h
    · exact hnF r h
    · obtain ⟨x, _, _, _, _, _, _, c, rfl, _, nF, _⟩ := All2.mem_r hR h
      exact fun e => nF (by injection e)
  obtain ⟨e5, S, rs, x0, rfl, hS, hsd, hnF⟩ := w
  have : t.take (vS t).length = t := by rw [List.length_map, List.take_length]
  rw [this] at hsd
  dsimp only [tNext, tRet, tCB, tCons, tNil, tC, tSeq, tIfS, tTest, tNot, tOr, tAnd, tB, tAndV, tOrV, tNotV, tIf, tDrop, tOp, tChain, rI0, tTup, tLst, tCall, tMeth, tMake, tProp, tFld, sFld, tAsg, gName, tYes, List.map, tNever, tPar, cxK, cxw, cxnK, cxnw, List.singleton_append, List.append_nil, List.cons_append, List.nil_append]
  have E5 := (E3.trans e4).trans e5
  have hF5 := (e4.trans e5) _ _ hF3
  have hg5 : TupS H5 g (g0 :: t) := E5 _ _ hg
  have hF0 : H Fo = none := hFo
  refine tfor_of ?_
  have lrs : rs.length = 2 ^ t.length := by rw [← hsd.length, len_subs]
  have SF : S ≠ Fo := fun e => by
    rw [e, hF5] at hS
    injection hS with hS
    injection hS with hS
    have := Nat.two_pow_pos t.length
    rw [← hS] at lrs
    simp at lrs
    omega
  refine ⟨_, rfl, S, rs, rfl, .inl ⟨.of hS, ?_⟩⟩
  have ov : Over (Itl K S) rs (fun H => SqL K H S rs) := over_list
  have subok : ∀ F, F ∈ subsT t → okLen (t.length + 1) F = true → CutOk (g0 :: t) F := fun F h1 h2 => allF_ok hG (List.mem_filter.mpr ⟨h1, h2⟩)
  have ls : (subsT t).length ≤ 64 := by rw [len_subs]; exact two t lt
  refine for_over ov (fun j σ' H' => ∃ us x, σ' = [some (.ref g), some (.ref Fo), some (.ref S), x0, x] ∧ ExtB Fo H5 H' ∧ H' Fo = some (.lst us) ∧ CutsAt CC H' us (g0 :: t) (((subsT t).take j).filter (okLen (t.length + 1)))) ⟨[], none, rfl, fun _ _ _ h => h, hF5, .nil⟩ (fun j σ' H' w => ?_) (fun j σ' H6 x w hx => ?_) fun σ' H6 w => ?_
  · obtain ⟨us, x1, _, e6, _, _⟩ := w
    exact .of (e6 _ _ SF hS)
  · obtain ⟨us, x1, rfl, e6, hF6, cs⟩ := w
    obtain ⟨F, hF, b, rfl, hb⟩ := All2.get hsd hx
    have hFm := List.mem_of_getElem? hF
    have l6 : F.length ≤ 6 := by have := (mem_subs.mp hFm).length_le; omega
    have bF : b ≠ Fo := fun e => hnF _ (List.mem_of_getElem? hx) (by rw [e])
    have hb6 := e6 _ _ bF hb
    have htk : (subsT t).take (j + 1) = (subsT t).take j ++ [F] := by rw [List.take_add_one, hF]; rfl
    have hus : us.length ≤ 64 := by
      rw [← cs.length]
      exact Nat.le_trans (List.length_filter_le _ _) (by rw [List.length_take]; omega)
    have gF : g ≠ Fo := fun e => by rw [TupS, e, hF5] at hg5; cases hg5
    have hg6 : TupS H6 g (g0 :: t) := e6 _ _ gF hg5
    refine ⟨_, rfl, _, _, rfl, .inl ⟨_, .of hb6, rfl⟩, _, _, rfl, rfl, ?_⟩
    rw [List.length_map]
    have flt : okLen (t.length + 1) F = (decide (2 ≤ F.length) && decide (F.length + 2 ≤ t.length + 1)) := rfl
    have no : okLen (t.length + 1) F = false → ((subsT t).take (j + 1)).filter (okLen (t.length + 1)) = ((subsT t).take j).filter (okLen (t.length + 1)) := fun h => by
      rw [htk, List.filter_append, List.filter_cons_of_neg (by simp [h])]; simp
    by_cases c1 : (2 : Int) ≤ (F.length : Int)
    · refine ⟨true, dt c1, iteT ?_⟩
      refine ⟨_, rfl, _, _, rfl, .inr ⟨_, hg6.t, rfl⟩, _, _, rfl, rfl, _, _, rfl, rfl, ?_⟩
      rw [List.length_map, List.length_cons]
      by_cases c2 : (F.length : Int) ≤ ((t.length + 1 : Nat) : Int) - 2
      · refine ⟨true, dt c2, iteT ?_⟩
        have ok' : okLen (t.length + 1) F = true := by rw [flt, Bool.and_eq_true, decide_eq_true_iff, decide_eq_true_iff]; omega
        refine ⟨_, rfl, .inl ⟨rfl, _, .of hF6⟩, _, rfl, _, rfl, g, b, g0 :: t, F, rfl, hg6.sq, .lst hb6, subok F hFm ok', fun H7 r e7 fr hc => ?_⟩
        have hF7 := e7 _ _ hF6
        refine ⟨Fo, us, _, rfl, rfl, hF7, Nat.lt_of_le_of_lt hus (by decide), us ++ [.ref r], _, rfl, fun a o ha h => by rw [upd_ne ha]; exact e7 _ _ (e6 a o ha h), upd_same, ?_⟩
        have cs8 : CutsAt CC (upd H7 Fo (.lst (us ++ [.ref r]))) us (g0 :: t) (((subsT t).take j).filter (okLen (t.length + 1))) := All2.imp (cs.ext e7) fun _ _ ⟨a, h1, h2⟩ => ⟨a, h1, h2.extL hF7 extB_upd⟩
        rw [htk, List.filter_append, List.filter_cons_of_pos ok']
        exact All2.append cs8 (.cons ⟨r, rfl, hc.extL hF7 extB_upd⟩ .nil)
      · refine ⟨false, df c2, iteF ?_⟩
        have ok' : okLen (t.length + 1) F = false := by rw [flt, Bool.and_eq_false_iff]; exact .inr (decide_eq_false (by omega))
        exact ⟨us, _, rfl, e6, hF6, by rw [no ok']; exact cs⟩
    · refine ⟨false, df c1, iteF ⟨false, rfl, iteF ?_⟩⟩
      have ok' : okLen (t.length + 1) F = false := by rw [flt, Bool.and_eq_false_iff]; exact .inl (decide_eq_false (by omega))
      exact ⟨us, _, rfl, e6, hF6, by rw [no ok']; exact cs⟩
  · obtain ⟨us, x1, rfl, e6, hF6, cs⟩ := w
    have : (subsT t).take rs.length = subsT t := by rw [← hsd.length, List.take_length]
    rw [this] at cs
    exact ⟨_, rfl, q H6 Fo us (fun a o h => e6 a o (ne_of_none h hF0) (E5 a o h)) hF0 hF6 cs⟩
end
end G
end

section
set_option Elab.async false
set_option linter.all false
set_option maxRecDepth 100000
set_option maxHeartbeats 1000000
/-! the texts of a cut's partings -/
namespace G
open PySem PySem.Spec PyProof.Rows L2
open C8 (fnScope fnBody fnArgs Cal Met Mak)
open SkE (call_str_str)
open StX (pa_star tStar)
open PySem.W (Tup)
theorem flat_len {α β : Type} {f : α → List β} {b : Nat} : ∀ {l : List α}, (∀ x ∈ l, (f x).length ≤ b) → (l.flatMap f).length ≤ l.length * b
  | [], _ => by simp
  | x :: r, h => by
    have := flat_len (l := r) fun y hy => h y (List.mem_cons_of_mem _ hy)
    have := h x List.mem_cons_self
    rw [List.flatMap_cons, List.length_append, List.length_cons, Nat.succ_mul]; omega
theorem len3 {f y : Str} {F : List Str} {m : Nat} (h : F.length ≤ 7) : (made3 f y F m).length ≤ 7 := by
  unfold made3; rw [List.length_map, List.length_take]; omega
theorem len2 {f y : Str} {F : List Str} {n : Nat} (h : F.length ≤ 7) (hn : n ≤ 7) : (made2 f y F n).length ≤ 49 := by
  have := flat_len (l := List.range n) (f := made3 f y F) (b := 7) fun _ _ => len3 h
  unfold made2
  rw [List.length_range] at this
  have : n * 7 ≤ 7 * 7 := Nat.mul_le_mul_right _ hn
  omega
theorem len1 {N F : List Str} {a k : Nat} (hN : N.length ≤ 7) (h : F.length ≤ 7) : (made1 N F a k).length ≤ 343 := by
  have := flat_len (l := (N.take a).take k) (f := fun f => made2 f (N.getD a Str.empty) F F.length) (b := 49) fun _ _ => len2 h h
  unfold made1
  have hl : ((N.take a).take k).length ≤ 7 := by rw [List.length_take, List.length_take]; omega
  have : ((N.take a).take k).length * 49 ≤ 7 * 49 := Nat.mul_le_mul_right _ hl
  omega
theorem len0 {N F : List Str} {n : Nat} (hN : N.length ≤ 7) (h : F.length ≤ 7) (hn : n ≤ 7) : (made0 N F n).length ≤ 2401 := by
  have := flat_len (l := List.range n) (f := fun a => made1 N F a a) (b := 343) fun _ _ => len1 hN h
  unfold made0
  rw [List.length_range] at this
  have : n * 343 ≤ 7 * 343 := Nat.mul_le_mul_right _ hn
  omega
theorem of_mkPt {z : Pt} {x y u v : Str} (h : z.Of [x, y] [u, v]) (h1 : sl x y) (h2 : sl u v) (h3 : x ≠ u) : z = mkPt x y u v := by
  unfold mkPt
  by_cases c : sl x u
  · rw [if_pos c]; exact of_uniq h h1 h2 c
  · rw [if_neg c]; exact of_uniq h.symm h2 h1 ((sl_tot h3).resolve_left c)
theorem made1_succ {N F : List Str} {j k : Nat} {z : Str} (h : (N.take j)[k]? = some z) : made1 N F j (k + 1) = made1 N F j k ++ made2 z (N.getD j Str.empty) F F.length := by
  unfold made1; rw [List.take_add_one, h]; simp [List.flatMap_append]
theorem made0_succ {N F : List Str} {j : Nat} : made0 N F (j + 1) = made0 N F j ++ made1 N F j j := by
  unfold made0; rw [List.range_succ, List.flatMap_append]; simp
theorem made2_succ {f y : Str} {F : List Str} {m : Nat} : made2 f y F (m + 1) = made2 f y F m ++ made3 f y F m := by
  unfold made2; rw [List.range_succ, List.flatMap_append]; simp
abbrev txs (l : List Pt) : List V := vS (l.map ptText)
theorem txs_append (a b : List Pt) : txs (a ++ b) = txs a ++ txs b := by simp
section
variable {P : Program} {w : World} {K : PySem.W.Frag} {mg : Str → Option Value} {base : Heap} {CP CC CT : Addr}
def spMade (CC : Addr) : Sp := fun vs H Q _ => ∃ c G F, vs = [.ref c] ∧ CutAt CC H c G F ∧ G.length ≤ 7 ∧ ∀ H' r, Ext H H' → H r = none → H' r = some (.lst (txs (madeL G F))) → Q (.ref r) H'
theorem sc__law_made : FnScope ["_law_cut_here", "_law_found", "_law_at", "_law_first", "_law_pair", "_law_more", "_law_second"] ["_law_cut_here"] (fnScope (top 63)) := ⟨rfl, rfl, rfl, by decide +kernel, rfl, by decide +kernel, by decide +kernel⟩
theorem cal__law_made (T : TX K mg CP CC CT) : Cal P w K mg base 7 "_law_made" (spMade CC) [] := by
  refine cal_of T.d_made sc__law_made (fun _ _ _ _ _ _ us hl => match us, hl with | [_], _ => rfl) (fun vs H Q E h => by obtain ⟨_, _, _, rfl, _⟩ := h; rfl) fun f cdv A outer s H vs Q E hr h => ?_
  refine ⟨_, (pss_cons (ps_set (i := 1) sc__law_made.nd rfl (Or.inl rfl) (pe_lst pa_nil))
      (pss_cons (ps_for PassesOwn.never rfl (pi_range1 (by rfl) (T.nb "range" (by decide)) (pa_cons (pe_callB call_len (by rfl) (T.nb "len" (by decide)) (by decide +kernel) (pa_cons (pe_pr (prp_near T) hr (by decide) (pv 0)) pa_nil)) pa_nil)) (pg_name (i := 2) sc__law_made.nd rfl (Or.inl rfl)) (pss_one (ps_for PassesOwn.never rfl (pi_seq (pe_slice sl_seq (pe_pr (prp_near T) hr (by decide) (pv 0)) po_none (po_some (pv 2)))) (pg_name (i := 3) sc__law_made.nd rfl (Or.inl rfl)) (pss_cons (ps_set (i := 4) sc__law_made.nd rfl (Or.inr rfl) (pe_lst (pa_cons (pv 3) (pa_cons (pe_ix ix_tup (pe_pr (prp_near T) hr (by decide) (pv 0)) (pv 2) (fun _ _ => rfl)) pa_nil))))
      (pss_one (ps_for PassesOwn.never rfl (pi_range1 (by rfl) (T.nb "range" (by decide)) (pa_cons (pe_callB call_len (by rfl) (T.nb "len" (by decide)) (by decide +kernel) (pa_cons (pe_pr (prp_far T) hr (by decide) (pv 0)) pa_nil)) pa_nil)) (pg_name (i := 5) sc__law_made.nd rfl (Or.inr rfl)) (pss_one (ps_set (i := 1) sc__law_made.nd rfl (Or.inl rfl) (pe_op op_cat (pv 1) (pe_lc (own := [("_law_second", 6)]) (tt := tYes) rfl sc__law_made.nd (pi_seq (pe_slice sl_seq (pe_pr (prp_far T) hr (by decide) (pv 0)) po_none (po_some (pv 5)))) (blkOk_by (N := ["_law_cut_here", "_law_found", "_law_at", "_law_first", "_law_pair", "_law_more", "_law_second"]) (sc := fnScope (top 63)) (own := [("_law_second", 6)]) (by decide +kernel)) (fun _ _ _ _ _ => (pg_name (i := 6) sc__law_made.nd rfl (Or.inl rfl))) (fun _ _ _ _ _ => pts_nil) (fun _ _ _ _ _ => (pe_callTy (cr_str_met (met_strP T) hr (by decide)) (by rfl) (T.nb "str" (by decide)) (by decide +kernel) (pa_cons (C8.pe_mk (mak_Parting T) hr (by decide) rfl (pa_cons (pv 4) (pa_cons (pe_lst (pa_cons (pv 6) (pa_cons (pe_ix (ix_tupK K) (pe_pr (prp_far T) hr (by decide) (pv 0)) (pv 5) (fun _ _ => rfl)) pa_nil))) pa_nil))) pa_nil)))))))))))))
      (pss_one (ps_ret (pv 1))))), ?_⟩
  obtain ⟨c, G, F, rfl, hc, h7, q⟩ := h
  obtain ⟨dx, n, fa, g, k1, k2, k3, k4, ok⟩ := id hc
  have lN : (nearOf G F).length ≤ 7 := Nat.le_trans (List.length_filter_le _ _) h7
  have lF : F.length ≤ 7 := Nat.le_trans (KM.asc_sub lo_sl ok.aF ok.aG ok.sub).length_le h7
  have aN : Asc (nearOf G F) := ok.aG.filter _
  dsimp only [tNext, tRet, tCB, tCons, tNil, tC, tSeq, tIfS, tTest, tNot, tOr, tAnd, tB, tAndV, tOrV, tNotV, tIf, tDrop, tOp, tChain, rI0, tTup, tLst, tCall, tMeth, tMake, tProp, tFld, sFld, tAsg, gName, tYes, List.map, tNever, tPar, cxK, cxw, cxnK, cxnw, List.singleton_append, List.append_nil, List.cons_append, List.nil_append]
  refine ⟨by decide, fun L0 hL0 => ?_⟩
  have e0 := Ext.upd (o := .lst []) hL0
  have hl0 : (upd H L0 (.lst [])) L0 = some (.lst (txs (made0 (nearOf G F) F 0))) := upd_same
  generalize upd H L0 (.lst []) = H0 at *
  refine tfor_of ?_
  refine ⟨_, rfl, c, dx, _, rfl, e0 _ _ k1, c, G, F, rfl, hc.ext e0, fun tn htn => ⟨_, _, rfl, .inr ⟨_, htn.t, rfl⟩, ?_⟩⟩
  rw [List.length_map]
  refine ⟨_, rfl, by omega, by omega, ?_⟩
  rw [Int.toNat_natCast]
  have elr : ∀ n : Nat, ((List.range n).map fun (i : Nat) => V.int (0 + (i : Int))).length = n := fun n => by simp
  have range_at : ∀ {n j : Nat} {x : V}, ((List.range n).map fun (i : Nat) => V.int (0 + (i : Int)))[j]? = some x → j < n ∧ x = .int (j : Int) := fun {n j x} h => by
    rw [List.getElem?_map] at h
    rcases Nat.lt_or_ge j n with hj | hj
    · rw [List.getElem?_range hj] at h
      injection h with h
      exact ⟨hj, by rw [← h]; simp⟩
    · rw [List.getElem?_eq_none (by simpa using hj)] at h; cases h
  generalize hNn : nearOf G F = N at *
  refine for_over (over_range (lo := 0) (n := N.length)) (fun j σ' H' => Ext H0 H' ∧ ∃ L x2 x3 x4 x5, σ' = [some (.ref c), some (.ref L), x2, x3, x4, x5, none] ∧ H' L = some (.lst (txs (made0 N F j))) ∧ H L = none) ⟨Ext.rfl', L0, none, none, none, none, rfl, hl0, hL0⟩ (fun _ _ _ _ => trivial) (fun j σ' H1 x w hx => ?_) fun σ' H1 w => ?_
  · obtain ⟨e1, L1, x2, x3, x4, x5, rfl, hl1, hL1⟩ := w
    obtain ⟨hj, rfl⟩ := range_at hx
    have E1 := e0.trans e1
    refine tfor_of ?_
    refine ⟨_, rfl, c, dx, _, rfl, E1 _ _ k1, c, G, F, rfl, hc.ext E1, fun tn htn => ?_⟩
    rw [hNn] at htn
    refine ⟨_, rfl, _, rfl, slq_of htn.sq fun p2 H2 e2 hs => ?_⟩
    rw [cut_hi, ← List.map_take] at hs
    refine iseq_of hs fun J st ov hst => ?_
    refine for_over ov (fun k σ' H' => Ext H2 H' ∧ ∃ L x3 x4 x5, σ' = [some (.ref c), some (.ref L), some (.int (j : Int)), x3, x4, x5, none] ∧ H' L = some (.lst (txs (made0 N F j ++ made1 N F j k))) ∧ H L = none) ⟨Ext.rfl', L1, x3, x4, x5, rfl, by rw [e2 _ _ hl1]; simp [made1], hL1⟩ (fun _ _ _ w => hst _ w.1) (fun k σ' H3 x w hx => ?_) fun σ' H3 w => ?_
    · obtain ⟨e3, L3, x3, x4, x5, rfl, hl3, hL3⟩ := w
      have E3 := (E1.trans e2).trans e3
      obtain ⟨z, hz, rfl⟩ : ∃ z, (N.take j)[k]? = some z ∧ x = .str z := by
        rw [List.getElem?_map] at hx
        cases e : (N.take j)[k]? with
        | none => rw [e] at hx; cases hx
        | some z => rw [e] at hx; cases hx; exact ⟨z, rfl, rfl⟩
      have hzN := List.mem_of_getElem? hz
      obtain ⟨zN, yN, szy⟩ := (asc_pair aN).mp ⟨j, hj, hzN, rfl⟩
      dsimp only [tNext, tRet, tCB, tCons, tNil, tC, tSeq, tIfS, tTest, tNot, tOr, tAnd, tB, tAndV, tOrV, tNotV, tIf, tDrop, tOp, tChain, rI0, tTup, tLst, tCall, tMeth, tMake, tProp, tFld, sFld, tAsg, gName, tYes, List.map, tNever, tPar, cxK, cxw, cxnK, cxnw, List.singleton_append, List.append_nil, List.cons_append, List.nil_append]
      refine ⟨_, rfl, _, rfl, c, dx, _, rfl, E3 _ _ k1, c, G, F, rfl, hc.ext E3, fun tn' htn' => ?_⟩
      rw [hNn] at htn'
      refine ⟨_, rfl, tn', _, _, _, rfl, rfl, htn'.t, atI_nat (j := j) (atI_getD hj), by show 2 ≤ sizeLine; decide, fun pr hpr => ?_⟩
      have e4 := Ext.upd (o := .lst [.str z, .str (N.getD j Str.empty)]) hpr
      have hp4 : (upd H3 pr (.lst [.str z, .str (N.getD j Str.empty)])) pr = some (.lst (vS [z, N.getD j Str.empty])) := upd_same
      generalize upd H3 pr (.lst [.str z, .str (N.getD j Str.empty)]) = H4 at *
      have E4 := E3.trans e4
      generalize hy : N.getD j Str.empty = y at *
      refine tfor_of ?_
      refine ⟨_, rfl, c, dx, _, rfl, E4 _ _ k1, c, G, F, rfl, hc.ext E4, fun tf htf => ⟨_, _, rfl, .inr ⟨vS F, TupS.t (l := F) htf, rfl⟩, ?_⟩⟩
      rw [List.length_map]
      refine ⟨_, rfl, by omega, by omega, ?_⟩
      rw [Int.toNat_natCast]
      refine for_over (over_range (lo := 0) (n := F.length)) (fun m σ' H' => Ext H4 H' ∧ ∃ L x5, σ' = [some (.ref c), some (.ref L), some (.int (j : Int)), some (.str z), some (.ref pr), x5, none] ∧ H' L = some (.lst (txs (made0 N F j ++ made1 N F j k ++ made2 z y F m))) ∧ H L = none) ⟨Ext.rfl', L3, x5, rfl, by rw [e4 _ _ hl3]; simp [made2], hL3⟩ (fun _ _ _ _ => trivial) (fun m σ' H5 x w hx => ?_) fun σ' H5 w => ?_
      · obtain ⟨e5, L5, x5, rfl, hl5, hL5⟩ := w
        obtain ⟨hm, rfl⟩ := range_at hx
        have E5 := E4.trans e5
        refine ⟨_, rfl, ?_⟩
        refine tlc_of ?_
        refine ⟨_, rfl, c, dx, _, rfl, E5 _ _ k1, c, G, F, rfl, hc.ext E5, fun tf5 htf5 => ⟨_, rfl, _, rfl, slq_of (TupS.sq (l := F) htf5) fun p6 H6 e6 hs6 => ?_⟩⟩
        rw [cut_hi, ← List.map_take] at hs6
        have E6 := E5.trans e6
        generalize hv : F.getD m Str.empty = v at *
        refine iseq_of hs6 fun J st ov hst => ?_
        refine lc_map ov (fun x => match x with | .str s => .str (ptText (mkPt z y s v)) | _ => .non) hst (vS40 (by rw [List.length_take]; omega)) (fun x H7 M hx e hM => ?_) fun D7 H7 hD7 e7 hl7 => ?_
        · obtain ⟨s, hs, rfl⟩ := List.mem_map.mp hx
          obtain ⟨sF, vF, ssv⟩ := (asc_pair ok.aF).mp ⟨m, hm, hs, hv.symm⟩
          have E7 := E6.trans e
          refine ⟨_, rfl, _, rfl, _, rfl, c, dx, _, rfl, E7 _ _ k1, c, G, F, rfl, hc.ext E7, fun tf7 htf7 => ?_⟩
          have at7 : (vS F)[m]? = some (.str v) := by rw [← hv]; exact atI_getD hm
          refine ⟨_, rfl, tf7, vS F, _, _, rfl, rfl, TupS.t (l := F) htf7, atI_nat (j := m) at7, by show 2 ≤ sizeLine; decide, fun L2 hL2 => ?_⟩
          have e8 := Ext.upd (o := .lst [.str s, .str v]) hL2
          refine fun x dx' fx fd nx => ?_
          have zN' : z ∈ G ∧ z ∉ F := mem_near.mp (hNn ▸ zN)
          have yN' : y ∈ G ∧ y ∉ F := mem_near.mp (hNn ▸ yN)
          have gz := ok.g _ zN'.1
          have gy := ok.g _ yN'.1
          have gs := ok.g _ (ok.sub _ sF)
          have gv := ok.g _ (ok.sub _ vF)
          have n1 := sl_ne szy
          have n2 := sl_ne ssv
          have n3 : z ≠ s := fun e => zN'.2 (e ▸ sF)
          have n4 : z ≠ v := fun e => zN'.2 (e ▸ vF)
          have n5 : y ≠ s := fun e => yN'.2 (e ▸ sF)
          have n6 : y ≠ v := fun e => yN'.2 (e ▸ vF)
          refine part_made (K := K) (CP := CP) fx fd nx (.lst (xs := vS [z, y]) ((((e5.trans e6).trans e).trans e8) _ _ hp4)) (.lst (xs := vS [s, v]) upd_same) rfl rfl (by simp; exact ⟨gz, gy, gs, gv⟩) (by simp; exact ⟨⟨n1, n3, n4⟩, ⟨n5, n6⟩, n2⟩) fun H8 zz e9 zo zp => ?_
          have ez := of_mkPt zo szy ssv n3
          subst ez
          obtain ⟨dz, _, _, _, _, _, hz1, _⟩ := id zp
          exact ⟨x, dz, _, rfl, hz1, x, _, rfl, zp, _, rfl, hM _ (e8.trans e9)⟩
        have e67 := e6.trans e7
        have hl7' : H7 D7 = some (.lst (txs (made3 z y F m))) := by
          rw [hl7]
          unfold made3
          rw [hv]
          simp only [List.map_map]
          rfl
        have hl57 := e67 _ _ hl5
        refine ⟨L5, D7, _, _, rfl, rfl, hl57, hl7', ?_, fun L8 hL8 => ?_⟩
        · rw [List.length_map, List.length_map, List.length_map, List.length_map, List.length_append, List.length_append]
          have := len3 (f := z) (y := y) (m := m) lF
          have := len2 (f := z) (y := y) (n := m) lF (by omega)
          have := len1 (a := j) (k := k) lN lF
          have := len0 (n := j) lN lF (by omega)
          exact Nat.le_trans (show _ ≤ 4000 by omega) (by decide)
        · refine ⟨(e5.trans e67).trans (Ext.upd hL8), L8, _, rfl, ?_, extFree ((E5.trans e67)) hL8⟩
          rw [upd_same, made2_succ, ← List.append_assoc, txs_append _ (made3 z y F m)]
      · obtain ⟨e5, L5, x5, rfl, hl5, hL5⟩ := w
        rw [elr] at hl5
        refine ⟨(e3.trans e4).trans e5, L5, _, _, _, rfl, ?_, hL5⟩
        rw [made1_succ hz, hy, ← List.append_assoc]; exact hl5
    · obtain ⟨e3, L3, x3, x4, x5, rfl, hl3, hL3⟩ := w
      refine ⟨(e1.trans e2).trans e3, L3, _, _, _, _, rfl, ?_, hL3⟩
      rw [List.length_map, List.length_take, Nat.min_eq_left (by omega)] at hl3
      rw [made0_succ]; exact hl3
  · obtain ⟨e1, L1, x2, x3, x4, x5, rfl, hl1, hL1⟩ := w
    rw [elr] at hl1
    refine ⟨_, rfl, q H1 L1 (e0.trans e1) hL1 ?_⟩
    unfold madeL
    rw [hNn]; exact hl1
end
end G
end

section
set_option Elab.async false
set_option linter.all false
set_option maxRecDepth 100000
set_option maxHeartbeats 1000000
/-! the generators -/
namespace G
open PySem PySem.Spec PyProof.Rows L2
open K0 (GF SpI Item GSt GSts GStm GD gX WD Stay M0 F0 Sp0 E0 T0 S0 S0s)
open C8 (fnScope fnBody fnArgs)
/-! rules with the text's facts named -/
theorem pi_enumQK {X : Cx} {e : Expr} {ta : TA} {p pos tpos : Pos} {elts : List Expr} {kk : Nat} (K : PySem.W.Frag) (hg : Gl X "enumerate") (hm : X.mg "enumerate" = none) (ha : PA X [e] ta) (h : X.K = K := by rfl) (hs : starEach [e] X.env = [(false, eval e X.env)] := by rfl) :
    PI X (.Tuple elts kk tpos) (.Call (.Name "enumerate" p) [e] [] pos) (iEnumQ K ta) := by subst h; exact pi_enumQ hg hm ha hs
theorem pa_starK {X : Cx} {e : Expr} {es : List Expr} {p : Pos} {te : TE} {t : TA} (K : PySem.W.Frag) (he : PE X e te) (hr : PA X es t) (h : X.K = K := by rfl) (hs : starEach (.Starred e p :: es) X.env = (true, eval e X.env) :: starEach es X.env := by rfl) : PA X (.Starred e p :: es) (StX.tStar K te t) := by subst h; exact StX.pa_star he hr hs
theorem pg_tupK {X : Cx} {es : List Expr} {k n : Nat} {pos : Pos} {t : TGs} (K : PySem.W.Frag) (hc : X.calm = true) (h : PGs X es t) (hK : X.K = K := by rfl) (hn : (assignEach es X.env).length = n := by rfl) (hst : (assignEach es X.env).findIdx? (·.1) = none := by rfl) : PG X (.Tuple es k pos) (gTup K n t) := by subst hK; exact pg_tup hc h hn hst
theorem sl_seqK {X : Cx} (K : PySem.W.Frag) (h : X.K = K := by rfl) : SlR X (rSlQ K) := by subst h; exact sl_seq
/-- a generator def by its name -/
structure CalG (P : Program) (w : World) (K : PySem.W.Frag) (mg : Str → Option Value) (base : Heap) (k : Nat) (x : Str) (sp : SpI) : Prop where
  ex : ∃ (f : Addr) (fd : FuncData) (ps : List Str), GF P w K mg base k f fd ps sp ∧ mg x = some (.ref f) ∧ PySem.W.keepIn K (.ref f) = true ∧ Binds K fd ps []
/-- a def over the softened model by its name -/
structure Cal0 (P : Program) (w : World) (K : PySem.W.Frag) (mg : Str → Option Value) (base : Heap) (k : Nat) (x : Str) (sp : Sp0) : Prop where
  ex : ∃ (f : Addr) (fd : FuncData) (ps : List Str), F0 P w K mg base k f fd ps sp ∧ mg x = some (.ref f) ∧ PySem.W.keepIn K (.ref f) = true ∧ Binds K fd ps []
section
variable {P : Program} {w : World} {K : PySem.W.Frag} {mg : Str → Option Value} {base : Heap}
theorem calG_of {x : Str} {st : Stmt} {N ps : List Str} {k : Nat} {sp : SpI} (D : Dfn K mg x x st) (S : GScope N ps (fnScope st)) (hnc : ∀ y ∈ (fnScope st).names, y.2 ≠ .cell ∧ y.2 ≠ .free) (bd : BindQ x x st ps) (len : ∀ vs H its, sp vs H its → vs.length = ps.length)
    (hb : ∀ (f : Addr) (cdv : Value) (outer : List Env) (L : Addr) (g : Nat) (vs : List V) (H : Hp) (its : List Item), sp vs H its → ∀ H0, Stay H H0 →
      GSts ⟨P, w, K, mg, base, N, envOfC x (fnScope st) L f cdv, outer, k, g⟩ false (fnBody st) its H0 (start N vs) H0 { nx := fun its' H0' _ H' => its' = [] ∧ K0.Ext H0' H' }) : CalG P w K mg base k x sp := by
  obtain ⟨f, fd, F, g, kp, df⟩ := D.ex
  have b := C8.Fun.binds F df bd
  obtain ⟨oc, od, dV, kV, doc, pm, an, cdv, ct, osl, rfl, lk, hcd⟩ := F.ex
  exact ⟨f, _, ps, K0.gf_of lk hcd S hnc len fun outer L gg vs H its h H0 st => hb f cdv outer L gg vs H its h H0 st, g, kp, b⟩
theorem cal0_of {x : Str} {st : Stmt} {N ps : List Str} {k : Nat} {sp : Sp0} (D : Dfn K mg x x st) (S : FnScope N ps (fnScope st)) (bd : BindQ x x st ps) (len : ∀ vs H Q, sp vs H Q → vs.length = ps.length)
    (hb : ∀ (f : Addr) (cdv : Value) (A : Around) (outer : List Env) (s : Shared) (H : Hp) (vs : List V) (Q : VK), Room k (A.deeper (envOfC x (fnScope st) s.heap.objs.size f cdv)) → sp vs H Q →
      S0s (cxOf K0.CX0 P w K mg base N x (fnScope st) f cdv A outer s H fun _ _ _ => False).nox (fnBody st) (start N vs) H { nx := fun _ H' => Q .non H', rt := Q }) : Cal0 P w K mg base (k + 1) x sp := by
  obtain ⟨f, fd, F, g, kp, df⟩ := D.ex
  have b := C8.Fun.binds F df bd
  obtain ⟨oc, od, dV, kV, doc, pm, an, cdv, ct, osl, rfl, lk, hcd⟩ := F.ex
  exact ⟨f, _, ps, K0.f0_of lk hcd S len fun A outer s H vs Q hr h => hb f cdv A outer s H vs Q hr h, g, kp, b⟩
end
/-- facts of the top for the upper defs -/
structure TY (K : PySem.W.Frag) (mg : Str → Option Value) : Prop where
  d_chosen : Dfn K mg "chosen" "chosen" (top 24)
  d_fours_of : Dfn K mg "fours_of" "fours_of" (top 25)
  d_partings_of : Dfn K mg "partings_of" "partings_of" (top 31)
  d_texts : Dfn K mg "_law_texts" "_law_texts" (top 64)
  d_answers_right : Dfn K mg "_law_answers_right" "_law_answers_right" (top 65)
  d_cuts_right : Dfn K mg "_law_cuts_right" "_law_cuts_right" (top 66)
  d_pair_right : Dfn K mg "_law_pair_right" "_law_pair_right" (top 67)
  d_some_right : Dfn K mg "_law_some_right" "_law_some_right" (top 68)
/-! ### chosen -/
def itT (q : List Str) : Item := fun v H => ∃ p, v = .ref p ∧ H p = some (.tup (vS q))
theorem k0ext {H H' : Hp} (h : K0.Ext H H') : Ext H H' := h
theorem SqT.stay {K : PySem.W.Frag} {H H' : Hp} {a : Addr} {xs : List V} (h : SqT K H a xs) (e : Stay H H') : SqT K H' a xs := by
  rcases h with (h | ⟨o, h⟩) | h
  · exact .inl (.inl (e _ _ h (fun _ z => by cases z)))
  · exact .inl (.inr ⟨o, e _ _ h (fun _ z => by cases z)⟩)
  · exact .inr h
theorem chosen_at (l : List Str) (n : Nat) : KM.chosen l (n + 1) = (List.range l.length).flatMap fun i => (KM.chosen (l.drop (i + 1)) n).map (l.getD i Str.empty :: ·) := by
  induction l with
  | nil => rfl
  | cons x r ih =>
    rw [KM.chosen, ih, List.length_cons, List.range_succ_eq_map, List.flatMap_cons, List.flatMap_map]
    rfl
theorem slqT_of {K : PySem.W.Frag} {H : Hp} {a : Addr} {xs : List V} {lo hi : Option Int} {Q : VK} (h : SqT K H a xs) (q : ∀ p H', Ext H H' → SqT K H' p (cutV xs lo hi) → Q (.ref p) H') : rSlQ K (.ref a) lo hi H Q :=
  .inr ⟨a, xs, rfl, h, fun hw => q a H Ext.rfl' (by rw [cut_all hw]; exact h), fun hw p hp => q p _ (Ext.upd hp) (.of upd_same)⟩
def spChosen (K : PySem.W.Frag) (n : Nat) : SpI := fun vs H its => ∃ t l, vs = [.ref t, .int (n : Nat)] ∧ SqT K H t (vS l) ∧ l.length ≤ 40 ∧ its = (KM.chosen l n).map itT
theorem sc_chosen : GScope ["hosts", "many", "at", "host", "rest"] ["hosts", "many"] (fnScope (top 24)) := ⟨rfl, rfl, rfl, by decide +kernel, rfl, by decide +kernel, by decide +kernel⟩
theorem nc_chosen : ∀ y ∈ (fnScope (top 24)).names, y.2 ≠ .cell ∧ y.2 ≠ .free := by decide +kernel
section
variable {P : Program} {w : World} {K : PySem.W.Frag} {mg : Str → Option Value} {base : Heap} {CP CC CT : Addr}
theorem calG_chosen0 (T : TX K mg CP CC CT) (U : TY K mg) : CalG P w K mg base 1 "chosen" (spChosen K 0) := by
  refine calG_of U.d_chosen sc_chosen nc_chosen (fun _ _ _ _ _ _ us hl => match us, hl with | [_, _], _ => rfl) (fun vs H its h => by obtain ⟨_, _, rfl, _⟩ := h; rfl) fun f cdv outer L g vs H its h H0 st => ?_
  obtain ⟨t, l, rfl, ht, h40, rfl⟩ := h
  have ec : KM.chosen l 0 = [[]] := by cases l <;> rfl
  rw [ec]
  refine K0.gss_one (K0.gs_if (fun W r => pt_cmpR op_eq (pv 1) pe_int mk) ?_)
  refine ⟨_, rfl, rfl, true, rfl, iteT ?_⟩
  refine K0.gss_one (K0.gs_yield (fun W r => pe_tup pa_nil) ?_)
  refine ⟨by decide, fun p hp => ⟨_, _, rfl, Ext.upd hp, ⟨p, rfl, upd_same⟩, fun H2 e => ⟨rfl, fun _ _ h => h⟩⟩⟩
theorem calG_chosen_succ (T : TX K mg CP CC CT) (U : TY K mg) {n k : Nat} (c : CalG P w K mg base k "chosen" (spChosen K n)) : CalG P w K mg base (k + 2) "chosen" (spChosen K (n + 1)) := by
  obtain ⟨fc, fdc, psc, GFc, gc, kc, bc⟩ := c.ex
  refine calG_of U.d_chosen sc_chosen nc_chosen (fun _ _ _ _ _ _ us hl => match us, hl with | [_, _], _ => rfl) (fun vs H its h => by obtain ⟨_, _, rfl, _⟩ := h; rfl) fun f cdv outer L g vs H its h H0 st => ?_
  obtain ⟨t, l, rfl, ht, h40, rfl⟩ := h
  refine K0.gss_one (K0.gs_if (fun W r => pt_cmpR op_eq (pv 1) pe_int mk) ?_)
  refine ⟨_, rfl, rfl, false, congrArg V.bl (decide_eq_false fun e => by injection e with e; omega), iteF ?_⟩
  have el : (vS l).length = l.length := List.length_map ..
  refine K0.gss_one (K0.gs_for (fun W r => pi_enumQK K (by rfl) (T.nb "enumerate" (by decide)) (pa_cons (pv 0) pa_nil)) (fun W r => pg_tupK (n := 2) K rfl (pgs_cons (pg_name (i := 2) sc_chosen.nd rfl (Or.inl rfl)) (pgs_cons (pg_name (i := 3) sc_chosen.nd rfl (Or.inl rfl)) pgs_nil))) ?_)
  have ht0 := SqT.stay ht st
  let row : Nat → List (List Str) := fun i => (KM.chosen (l.drop (i + 1)) n).map (l.getD i Str.empty :: ·)
  let Pv : Nat → Nat → List Item → Hp → L2.St → Hp → Prop := fun i m its H0 σ H => m = l.length - i ∧ i ≤ l.length ∧ K0.Ext H0 H ∧ SqT K H t (vS l) ∧ (∃ x y z, σ = [some (.ref t), some (.int ((n + 1 : Nat) : Int)), x, y, z]) ∧ its = (((List.range l.length).drop i).flatMap row).map itT
  refine ⟨_, rfl, t, vS l, rfl, .inr ⟨ht0, Pv, ⟨l.length, by simp, Nat.zero_le _, fun _ _ h => h, ht0, ⟨none, none, none, rfl⟩, by rw [chosen_at]; rfl⟩, ?_⟩⟩
  rintro i m its1 H1 σ H2 ⟨rfl, hi, e1, ht2, ⟨x0, y0, z0, rfl⟩, rfl⟩
  have ov := overE_tup (K := K) (a := t) (xs := vS l)
  by_cases hlt : i < l.length
  · refine .inr ⟨ov.go i H2 (by rw [el]; exact hlt) ht2, fun x H3 hy => ?_⟩
    obtain ⟨T1, v, rfl, hT1, rfl, hx⟩ := ov.yld i H2 x H3 (by rw [el]; exact hlt) ht2 hy
    rw [atI_getD hlt] at hx
    injection hx with hx
    subst hx
    have e3 : Ext H2 (upd H2 T1 (.tup [.int (i : Nat), .str (l.getD i Str.empty)])) := Ext.upd hT1
    refine ⟨T1, [.int (i : Nat), .str (l.getD i Str.empty)], rfl, .of upd_same, rfl, _, _, rfl, _, _, rfl, rfl, ?_⟩
    have hdrop : (List.range l.length).drop i = i :: (List.range l.length).drop (i + 1) := by
      rw [List.drop_eq_getElem_cons (by simpa using hlt)]; simp
    refine K0.gss_one (K0.gs_forG (k := k) GFc (by show k + 2 ≤ k + 2; omega) (fun W => by rfl) gc kc bc .nil (fun W r => pa_cons (pe_slice (sl_seqK K) (pv 0) (po_some (pe_op op_add (pv 2) pe_int)) po_none) (pa_cons (pe_op op_sub (pv 1) pe_int) pa_nil)) (fun W r => pg_name (i := 4) sc_chosen.nd rfl (Or.inl rfl)) ?_)
    refine ⟨_, rfl, _, rfl, _, _, rfl, rfl, _, rfl, ?_⟩
    refine slqT_of (ht2.ext e3) fun p4 H4 e4 hs => ?_
    rw [show ((i : Int) + 1) = ((i + 1 : Nat) : Int) by omega, cut_lo, ← List.map_drop] at hs
    refine ⟨_, rfl, _, _, rfl, rfl, (KM.chosen (l.drop (i + 1)) n).map itT, ⟨p4, l.drop (i + 1), by show [V.ref p4, V.int (((n + 1 : Nat) : Int) - 1)] = [V.ref p4, V.int (n : Nat)]; rw [show (((n + 1 : Nat) : Int) - 1) = ((n : Nat) : Int) by omega], hs, by rw [List.length_drop]; omega, rfl⟩, ?_⟩
    have e14 := (k0ext e1).trans (e3.trans e4)
    let Pv2 : List Item → List Item → Hp → L2.St → Hp → Prop := fun rest its H0 σ H => ∃ qs : List (List Str), rest = qs.map itT ∧ (∀ q ∈ qs, q.length ≤ 40) ∧ its = (qs.map fun q => itT (l.getD i Str.empty :: q)) ++ (((List.range l.length).drop (i + 1)).flatMap row).map itT ∧ K0.Ext H0 H ∧ SqT K H t (vS l) ∧ ∃ z, σ = [some (.ref t), some (.int ((n + 1 : Nat) : Int)), some (.int (i : Nat)), some (.str (l.getD i Str.empty)), z]
    refine ⟨Pv2, ⟨KM.chosen (l.drop (i + 1)) n, rfl, fun q hq => by have := (KM.mem_chosen.mp hq).1.length_le; rw [List.length_drop] at this; omega, ?_, e14, ht2.ext (e3.trans e4), z0, rfl⟩, ?_, ?_⟩
    · rw [hdrop, List.flatMap_cons, List.map_append]
      congr 1
      simp only [row, List.map_map]
      rfl
    · rintro its H5 σ H6 H7 ⟨qs, hq, hq40, rfl, e6, ht6, z, rfl⟩ e7
      have : qs = [] := by cases qs with
        | nil => rfl
        | cons _ _ => cases hq
      subst this
      exact ⟨l.length - (i + 1), by omega, rfl, hlt, fun a o h => e7 a o (e6 a o h), ht6.ext e7, ⟨_, _, _, rfl⟩, by simp⟩
    · rintro it rest its H5 σ H6 x H7 ⟨qs, hq, hq40, rfl, e6, ht6, z, rfl⟩ e7 hit
      obtain ⟨q, qs', rfl⟩ : ∃ q qs', qs = q :: qs' := by
        cases qs with
        | nil => cases hq
        | cons q qs' => exact ⟨q, qs', rfl⟩
      injection hq with h1 h2
      subst h1 h2
      obtain ⟨pq, rfl, hpq⟩ := hit
      refine K0.gss_one (K0.gs_yield (fun W r => pe_tup (pa_cons (pv 3) (pa_starK K (pv 4) pa_nil))) ?_)
      refine ⟨_, rfl, _, rfl, pq, vS q, rfl, .inl (.of hpq), ?_, fun pn hpn => ?_⟩
      · have := hq40 q List.mem_cons_self
        exact Nat.le_trans (show _ ≤ 100 by simp; omega) (by decide)
      · have e8 := Ext.upd (o := .tup (.str (l.getD i Str.empty) :: (vS q ++ []))) hpn
        refine ⟨_, _, rfl, fun a o h => e8 _ _ (e7 _ _ (e6 _ _ h)), ⟨pn, rfl, by rw [upd_same, List.append_nil]; rfl⟩, fun H8 e9 => ⟨Stay.trans (K0.Ext.stay e8) e9, qs', rfl, (fun q hq => hq40 q (List.mem_cons_of_mem _ hq)), rfl, fun _ _ h => h, SqT.stay ((ht6.ext e7).ext e8) e9, _, rfl⟩⟩
  · have e : i = l.length := by omega
    subst e
    refine .inl ⟨by rw [← el]; exact ov.stop H2 ht2, ?_, e1⟩
    rw [List.drop_eq_nil_of_le (by simp)]; rfl
theorem calG_chosen4 (T : TX K mg CP CC CT) (U : TY K mg) : CalG P w K mg base 9 "chosen" (spChosen K 4) :=
  calG_chosen_succ T U (calG_chosen_succ T U (calG_chosen_succ T U (calG_chosen_succ T U (calG_chosen0 T U))))
def spFours (K : PySem.W.Frag) : SpI := fun vs H its => ∃ t l, vs = [.ref t] ∧ SqT K H t (vS l) ∧ l.length ≤ 40 ∧ its = (KM.chosen l 4).map itT
theorem sc_fours_of : GScope ["hosts"] ["hosts"] (fnScope (top 25)) := ⟨rfl, rfl, rfl, by decide +kernel, rfl, by decide +kernel, by decide +kernel⟩
theorem nc_fours_of : ∀ y ∈ (fnScope (top 25)).names, y.2 ≠ .cell ∧ y.2 ≠ .free := by decide +kernel
theorem calG_fours_of (T : TX K mg CP CC CT) (U : TY K mg) : CalG P w K mg base 12 "fours_of" (spFours K) := by
  obtain ⟨fc, fdc, psc, GFc, gc, kc, bc⟩ := (calG_chosen4 (P := P) (w := w) (base := base) T U).ex
  refine calG_of U.d_fours_of sc_fours_of nc_fours_of (fun _ _ _ _ _ _ us hl => match us, hl with | [_], _ => rfl) (fun vs H its h => by obtain ⟨_, _, rfl, _⟩ := h; rfl) fun f cdv outer L g vs H its h H0 st => ?_
  obtain ⟨t, l, rfl, ht, h40, rfl⟩ := h
  refine K0.gss_one (K0.gs_yieldFrom (k := 9) GFc (by show 9 + 3 ≤ 12; omega) (fun W => by rfl) gc kc bc .nil (fun W r => pa_cons (pv 0) (pa_cons pe_int pa_nil)) ?_)
  refine ⟨_, rfl, (KM.chosen l 4).map itT, ⟨t, l, rfl, SqT.stay ht st, h40, rfl⟩, ?_⟩
  refine ⟨fun rest its H0 _ H => ∃ qs : List (List Str), rest = qs.map itT ∧ its = qs.map itT ∧ K0.Ext H0 H, ⟨_, rfl, rfl, fun _ _ h => h⟩, ?_, ?_⟩
  · rintro its H1 σ H2 H3 ⟨qs, hq, rfl, e⟩ e3
    have : qs = [] := by cases qs with
      | nil => rfl
      | cons _ _ => cases hq
    subst this
    exact ⟨rfl, fun a o h => e3 a o (e a o h)⟩
  · rintro it rest its H1 σ H2 x H3 ⟨qs, hq, rfl, e⟩ e3 hit
    obtain ⟨q, qs', rfl⟩ : ∃ q qs', qs = q :: qs' := by
      cases qs with
      | nil => cases hq
      | cons q qs' => exact ⟨q, qs', rfl⟩
    injection hq with h1 h2
    subst h1 h2
    exact ⟨itT q, qs'.map itT, rfl, fun a o h => e3 a o (e a o h), hit, fun H4 _ => ⟨qs', rfl, rfl, fun _ _ h => h⟩⟩
/-- a parting that comes -/
def itP (CP : Addr) (p : Pt) : Item := fun v H => ∃ a, v = .ref a ∧ PartAt CP H a p
theorem PartAt.stay {C : Addr} {H H' : Hp} {a : Addr} {p : Pt} (h : PartAt C H a p) (e : Stay H H') : PartAt C H' a p := by
  obtain ⟨dx, b, p1, p2, f, f4, h1, h2, h3, h4, h5, r⟩ := h
  exact ⟨dx, b, p1, p2, f, f4, e _ _ h1 (fun _ z => by cases z), e _ _ h2 (fun _ z => by cases z), e _ _ h3 (fun _ z => by cases z), e _ _ h4 (fun _ z => by cases z), e _ _ h5 (fun _ z => by cases z), r⟩
theorem CutAt.stay {C : Addr} {H H' : Hp} {a : Addr} {G F : List Str} (h : CutAt C H a G F) (e : Stay H H') : CutAt C H' a G F := by
  obtain ⟨dx, n, f, g, h1, h2, h3, h4, r⟩ := h
  exact ⟨dx, n, f, g, e _ _ h1 (fun _ z => by cases z), e _ _ h2 (fun _ z => by cases z), e _ _ h3 (fun _ z => by cases z), e _ _ h4 (fun _ z => by cases z), r⟩
theorem CutsAt.stay {CC : Addr} {H H' : Hp} {rs : List V} {G : List Str} {Fs : List (List Str)} (h : CutsAt CC H rs G Fs) (e : Stay H H') : CutsAt CC H' rs G Fs := All2.imp h fun _ _ ⟨a, h1, h2⟩ => ⟨a, h1, h2.stay e⟩
theorem TreeAt.stay {CC CT : Addr} {H H' : Hp} {a : Addr} {G : List Str} {Fs : List (List Str)} (h : TreeAt CC CT H a G Fs) (e : Stay H H') : TreeAt CC CT H' a G Fs := by
  obtain ⟨dx, n, o, us, h1, h2, h3, h4, r⟩ := h
  exact ⟨dx, n, o, us, e _ _ h1 (fun _ z => by cases z), e _ _ h2 (fun _ z => by cases z), e _ _ h3 (fun _ z => by cases z), h4.stay e, r⟩
def spPartings (CP CC CT : Addr) : SpI := fun vs H its => ∃ t G Fs, vs = [.ref t] ∧ TreeAt CC CT H t G Fs ∧ its = (KM.held Fs G).map (itP CP)
theorem sc_partings_of : GScope ["tree", "one", "two", "three", "last", "answer"] ["tree"] (fnScope (top 31)) := ⟨rfl, rfl, rfl, by decide +kernel, rfl, by decide +kernel, by decide +kernel⟩
theorem nc_partings_of : ∀ y ∈ (fnScope (top 31)).names, y.2 ≠ .cell ∧ y.2 ≠ .free := by decide +kernel
end
end G
end

section
set_option Elab.async false
set_option linter.all false
set_option maxRecDepth 100000
set_option maxHeartbeats 1000000
/-! a tree called; partings_of -/
namespace G
open PySem PySem.Spec PyProof.Rows L2
open K0 (GF SpI Item GSt GSts GStm GD gX WD Stay M0 F0 Sp0 E0 T0 S0 S0s)
open C8 (fnScope fnBody fnArgs Cal Met Mak)
theorem fnIn_of {K : PySem.W.Frag} {C g f : Addr} {m q : Str} {st : Stmt} {fd : FuncData} (h : Meth K C m g) (h' : Meth K C m f) (F : C8.Fun K m q st f fd) : PySem.W.fnIn K g = true := by
  have e := h.at_.symm.trans h'.at_
  injection e with e
  injection e with e
  injection e with e
  subst e
  obtain ⟨oc, od, dV, kV, doc, pm, an, cdv, ct, osl, rfl, lk, hcd⟩ := F.ex
  unfold PySem.W.fnIn
  rw [lk]
def tCallT (C : Addr) (sp : Sp) (tf : TE) (t : TA) : TE := fun σ H Q => tf σ H fun y H1 => ∃ a, y = V.ref a ∧ t σ H1 fun vs H2 => (∃ dx fs, H2 a = some (.ins C dx fs)) ∧ sp (V.ref a :: vs) H2 Q XK0
theorem pe_callT {X : Cx} {k j : Nat} {C : Addr} {sp : Sp} {q : Str} {st : Stmt} {fe e : Expr} {es : List Expr} {pos : Pos} {tf : TE} {t : TA} (c : Met X.prog X.w X.K X.mg X.base k C "__call__" sp []) (m : Mtd X.K C "__call__" q st) (hr : Room j X.A) (hk : k ≤ j) (hf : PE X fe tf) (ha : PA X (e :: es) t)
    (ht : eval (.Call fe (e :: es) [] pos) X.env = (do callWith pos (← eval fe X.env) [] (backTo pos (starEach (e :: es) X.env)) (backToKw pos (keywordEach [] X.env))) := by rfl)
    (he : starEach (e :: es) X.env = (false, eval e X.env) :: starEach es X.env := by rfl) (hpl : (backTo pos (starEach es X.env)).any (·.1) = false := by rfl) : PE X (.Call fe (e :: es) [] pos) (tCallT C sp tf t) := by
  obtain ⟨g, fd, ps, ds, hc, hm, F, b, d⟩ := c.ex
  cases d
  obtain ⟨f', fd', hm', F', _⟩ := m.ex
  have hfi := fnIn_of hm hm' F'
  refine ⟨fun pins s σ H Q I h => ?_⟩
  refine Call_ (thn (hf.run pins s σ H _ I h) fun u s1 ⟨y, H1, I1, ry, a, ey, q⟩ => ?_) ht
  subst ey
  obtain rfl : u = Value.ref a := ry
  refine StX.callO_with (thn (ha.run pos pins s1 σ H1 _ I1 q) fun us s2 ⟨vs, H2, I2, r, ⟨dx, fs, hi⟩, q2⟩ => ?_) he hpl
  obtain ⟨mA, O, _⟩ := ins_get I2.hok hi
  obtain ⟨od, J, _⟩ := O.look
  refine ⟨⟨C, _, od, J, rfl⟩, ?_⟩
  have hsp : sp ((V.ref a :: vs) ++ []) H2 Q XK0 := by rw [List.append_nil]; exact q2
  have hl : ((Value.ref a :: us) ++ []).length = ps.length := by
    have := F.len _ _ _ _ hsp
    rw [List.append_nil, List.length_cons] at this ⊢
    rw [← r.length]; exact this
  refine wpAny_call (PySem.W.kco_code I2.kIn J rfl hm.at_ hm.fn hfi ?_)
  have bb := b s2 (.ref a :: us) I2.kIn hl
  rw [List.append_nil] at bb
  have rr : Vals ((V.ref a :: vs) ++ []) (Value.ref a :: us) := by rw [List.append_nil]; exact .cons rfl r
  refine codeAny_mono (F.run X.A X.stack s2 H2 ⟨.ref a :: us, []⟩ (.ref a :: us) ((V.ref a :: vs) ++ []) Q XK0 (hr.mono hk) I2.env0 bb rr hsp) fun r s' hq => ?_
  cases r with
  | error e => exact hq.elim
  | ok fl =>
    cases fl with
    | ret u => exact I2.after hq
    | next => exact False.elim hq
    | brk => exact False.elim hq
    | cont => exact False.elim hq
section
variable {P : Program} {w : World} {K : PySem.W.Frag} {mg : Str → Option Value} {base : Heap} {CP CC CT : Addr}
theorem held_cons {q : List Str} {qs : List (List Str)} {Fs : List (List Str)} : (q :: qs).filterMap (KM.ans4 Fs) = (match KM.ans4 Fs q with | some p => [p] | none => []) ++ qs.filterMap (KM.ans4 Fs) := by
  rw [List.filterMap_cons]
  cases KM.ans4 Fs q <;> rfl
theorem calG_partings_of (T : TX K mg CP CC CT) (U : TY K mg) : CalG P w K mg base 14 "partings_of" (spPartings CP CC CT) := by
  obtain ⟨fc, fdc, psc, GFc, gc, kc, bc⟩ := (calG_fours_of (P := P) (w := w) (base := base) T U).ex
  refine calG_of U.d_partings_of sc_partings_of nc_partings_of (fun _ _ _ _ _ _ us hl => match us, hl with | [_], _ => rfl) (fun vs H its h => by obtain ⟨_, _, _, rfl, _⟩ := h; rfl) fun f cdv outer L g vs H its h H0 st => ?_
  obtain ⟨t, G, Fs, rfl, ht, rfl⟩ := h
  have ht0 := ht.stay st
  obtain ⟨dx, n, o, us, h1, h2, h3, h4, h5, h6, h7, h8⟩ := id ht0
  refine K0.gss_one (K0.gs_forG (k := 12) GFc (by show 12 + 2 ≤ 14; omega) (fun W => by rfl) gc kc bc .nil (fun W r => pa_cons (pe_pr (prp_hostsT T) (r.deeper _) (by show 1 + 1 ≤ 14; decide) (pv 0)) pa_nil)
    (fun W r => pg_tupK (n := 4) K rfl (pgs_cons (pg_name (i := 1) sc_partings_of.nd rfl (Or.inl rfl)) (pgs_cons (pg_name (i := 2) sc_partings_of.nd rfl (Or.inl rfl)) (pgs_cons (pg_name (i := 3) sc_partings_of.nd rfl (Or.inl rfl)) (pgs_cons (pg_name (i := 4) sc_partings_of.nd rfl (Or.inl rfl)) pgs_nil))))) ?_)
  refine ⟨_, rfl, t, dx, _, rfl, h1, t, G, Fs, rfl, ht0, fun th hth => ?_⟩
  refine ⟨(KM.chosen G 4).map itT, ⟨th, G, rfl, hth.t, h7.l40, rfl⟩, ?_⟩
  let Pv : List Item → List Item → Hp → L2.St → Hp → Prop := fun rest its H0 σ H => ∃ qs : List (List Str), rest = qs.map itT ∧ (∀ q ∈ qs, q.Sublist G ∧ q.length = 4) ∧ its = (qs.filterMap (KM.ans4 Fs)).map (itP CP) ∧ K0.Ext H0 H ∧ TreeAt CC CT H t G Fs ∧ ∃ a b c d e, σ = [some (.ref t), a, b, c, d, e]
  refine ⟨Pv, ⟨_, rfl, fun q hq => KM.mem_chosen.mp hq, rfl, fun _ _ h => h, ht0, none, none, none, none, none, rfl⟩, ?_, ?_⟩
  · rintro its H1 σ H2 H3 ⟨qs, hq, _, rfl, e, _⟩ e3
    have : qs = [] := by cases qs with
      | nil => rfl
      | cons _ _ => cases hq
    subst this
    exact ⟨rfl, fun a o h => e3 a o (e a o h)⟩
  · rintro it rest its H1 σ H2 x H3 ⟨qs, hq, hch, rfl, e, htr, s1, s2, s3, s4, s5, rfl⟩ e3 hit
    obtain ⟨q, qs', rfl⟩ : ∃ q qs', qs = q :: qs' := by
      cases qs with
      | nil => cases hq
      | cons q qs' => exact ⟨q, qs', rfl⟩
    injection hq with h1 h2
    subst h1 h2
    obtain ⟨hsub, hlen⟩ := hch q List.mem_cons_self
    have hch' : ∀ q ∈ qs', q.Sublist G ∧ q.length = 4 := fun q hq => hch q (List.mem_cons_of_mem _ hq)
    obtain ⟨a, b, c, d, rfl⟩ := KM.four_of hlen
    obtain ⟨pq, rfl, hpq⟩ := hit
    have htr3 := htr.ext e3
    obtain ⟨dx3, _, _, _, i1, _⟩ := id htr3
    refine ⟨pq, vS [a, b, c, d], rfl, .of hpq, rfl, _, _, rfl, _, _, rfl, _, _, rfl, _, _, rfl, rfl, ?_⟩
    refine K0.gss_cons (K0.gs_ps (fun W r => ps_set (i := 5) sc_partings_of.nd rfl (Or.inl rfl) (pe_callT (met_callT T) T.m_callT (r.deeper _) (by show 5 ≤ 14; decide) (pv 0) (pa_cons (pv 1) (pa_cons (pv 2) (pa_cons (pv 3) (pa_cons (pv 4) pa_nil)))))) ?_)
    refine ⟨_, rfl, t, rfl, _, rfl, _, rfl, _, rfl, _, rfl, ⟨dx3, _, i1⟩, t, a, b, c, d, G, Fs, rfl, htr3, List.Pairwise.sublist hsub h7.a, fun x hx => hsub.subset hx, fun hno H4 e4 => ?_, fun p r H4 hp e4 fr hpt => ?_⟩
    · refine K0.gss_one (K0.gs_if (fun W r => pt_cmpR op_notN (pv 5) pe_non (nomark _)) ?_)
      refine ⟨_, rfl, rfl, false, rfl, iteF (K0.gss_nil ⟨K0.Ext.stay e4, qs', rfl, hch', ?_, fun x o h => e4 _ _ (e3 _ _ (e _ _ h)), htr3.ext e4, _, _, _, _, _, rfl⟩)⟩
      rw [held_cons]
      have : KM.ans4 Fs [a, b, c, d] = none := hno
      rw [this]; rfl
    · refine K0.gss_one (K0.gs_if (fun W r => pt_cmpR op_notN (pv 5) pe_non (nomark _)) ?_)
      refine ⟨_, rfl, rfl, true, rfl, iteT ?_⟩
      refine K0.gss_one (K0.gs_yield (fun W r => pv 5) ?_)
      have : KM.ans4 Fs [a, b, c, d] = some p := hp
      refine ⟨_, rfl, itP CP p, (qs'.filterMap (KM.ans4 Fs)).map (itP CP), by rw [held_cons, this]; rfl, fun x o h => e4 _ _ (e3 _ _ (e _ _ h)), ⟨r, rfl, hpt⟩, fun H5 e5 => ⟨Stay.trans (K0.Ext.stay e4) e5, qs', rfl, hch', rfl, fun _ _ h => h, (htr3.ext e4).stay e5, _, _, _, _, _, rfl⟩⟩
end
end G
end

section
set_option Elab.async false
set_option linter.all false
set_option maxRecDepth 100000
set_option maxHeartbeats 1000000
/-! lists over generators; the texts -/
namespace G
open PySem PySem.Spec PyProof.Rows L2
open K0 (GF SpI Item GSt GSts GStm GD gX WD Stay M0 F0 Sp0 E0 T0 S0 S0s LcG)
open C8 (fnScope fnBody fnArgs Cal Met Mak)
open SkE (call_str_str)
theorem PartAt.extL {C : Addr} {H H' : Hp} {D a : Addr} {p : Pt} {l : List V} (h : PartAt C H a p) (hD : H D = some (.lst l)) (e : ExtB D H H') : PartAt C H' a p := by
  have ne : ∀ {t : Addr} {o : HO}, H t = some o → o ≠ .lst l → t ≠ D := fun h n z => by rw [z, hD] at h; injection h with h; exact n h.symm
  obtain ⟨dx, b, p1, p2, f, f4, h1, h2, h3, h4, h5, r⟩ := h
  exact ⟨dx, b, p1, p2, f, f4, e _ _ (ne h1 fun z => by cases z) h1, e _ _ (ne h2 fun z => by cases z) h2, e _ _ (ne h3 fun z => by cases z) h3, e _ _ (ne h4 fun z => by cases z) h4, e _ _ (ne h5 fun z => by cases z) h5, r⟩
/-- what a list over a generator asks behind the call -/
def LgR (its : List Item) (g : TG) (tt : TT) (te : TE) (vs : List Nat) (σ : L2.St) (H1 : Hp) (Q : VK) : Prop := ∀ D, H1 D = none → ∃ Pv : List Item → Hp → Prop, Pv its (upd H1 D (.lst [])) ∧ (∀ its H, Pv its H → ∃ acc, H D = some (.lst acc)) ∧ (∀ H H', Pv [] H → K0.Ext H H' → Q (.ref D) H') ∧
    ∀ it rest H x H', Pv (it :: rest) H → K0.Ext H H' → it x H' → g x (wipe σ vs) H' fun σ2 H2 => wipe σ2 vs = wipe σ vs ∧ tt σ2 H2 fun b H3 =>
      if b = true then te σ2 H3 fun y H4 => ∃ acc, H4 D = some (.lst acc) ∧ acc.length < sizeLine ∧ Stay H' (upd H4 D (.lst (acc ++ [y]))) ∧ Pv rest (upd H4 D (.lst (acc ++ [y]))) else Stay H' H3 ∧ Pv rest H3
theorem lcg_of {sp : SpI} {t : TA} {g : TG} {tt : TT} {te : TE} {vs : List Nat} {σ : L2.St} {H : Hp} {Q : VK} (h : t σ H fun us H1 => ∃ its, sp (us ++ []) H1 its ∧ LgR its g tt te vs σ H1 Q) : LcG sp [] t g tt te vs σ H Q := h
/-- .. of given things, by a test and a relation -/
theorem lg_over {α : Type} {itm : α → Item} {ps : List α} {i : Nat} {σ : L2.St} {H : Hp} {tt : TT} {te : TE} {Q : VK} (keep : α → Bool) (Rr : Addr → α → V → Hp → Prop) (hz : ps.length ≤ sizeLine)
    (stab : ∀ D p y H1 H2 l, H1 D = some (.lst l) → ExtB D H1 H2 → Rr D p y H1 → Rr D p y H2)
    (turn : ∀ D l p x H1 (M : V → Hp → Prop) (N : Hp → Prop), p ∈ ps → H D = none → H1 D = some (.lst l) → Ext H H1 → itm p x H1 → (keep p = true → ∀ y H3, Ext H1 H3 → Rr D p y H3 → M y H3) → (keep p = false → ∀ H3, Ext H1 H3 → N H3) →
      tt (σ.set i (some x)) H1 fun b H2 => if b = true then te (σ.set i (some x)) H2 M else N H2)
    (fin : ∀ D H' acc, H D = none → Ext H H' → H' D = some (.lst acc) → All2 (fun p y => Rr D p y H') (ps.filter keep) acc → Q (.ref D) H') :
    LgR (ps.map itm) (gName i) tt te [i] σ H Q := by
  intro D hD
  let Pv : List Item → Hp → Prop := fun rest H' => ∃ done todo, ps = done ++ todo ∧ rest = todo.map itm ∧ Ext H H' ∧ ∃ acc, H' D = some (.lst acc) ∧ All2 (fun p y => Rr D p y H') (done.filter keep) acc
  have extD : ∀ {H1 H2 : Hp}, Ext H1 H2 → ExtB D H1 H2 := fun e a u _ q => e a u q
  refine ⟨Pv, ⟨[], ps, rfl, rfl, Ext.upd hD, [], upd_same, .nil⟩, fun its H' ⟨_, _, _, _, _, acc, h, _⟩ => ⟨acc, h⟩, ?_, ?_⟩
  · rintro H1 H2 ⟨done, todo, e, e2, e3, acc, ha, hR⟩ e4
    have : todo = [] := by cases todo with
      | nil => rfl
      | cons _ _ => cases e2
    subst this
    rw [List.append_nil] at e
    subst e
    have e4 : Ext H1 H2 := e4
    exact fin D H2 acc hD (e3.trans e4) (e4 _ _ ha) (hR.imp fun p y r => stab D p y _ _ _ ha (extD e4) r)
  · rintro it rest H1 x H2 ⟨done, todo, e, e2, e3, acc, ha, hR⟩ e4 hit
    obtain ⟨p, todo', rfl⟩ : ∃ p todo', todo = p :: todo' := by
      cases todo with
      | nil => cases e2
      | cons p q => exact ⟨p, q, rfl⟩
    injection e2 with e2 e2'
    subst e2 e2'
    have e4 : Ext H1 H2 := e4
    have ha2 := e4 _ _ ha
    have hR2 := hR.imp fun p y r => stab D p y _ _ _ ha (extD e4) r
    have hw : (wipe σ [i]).set i (some x) = σ.set i (some x) := by simp [wipe]
    show wipe ((wipe σ [i]).set i (some x)) [i] = wipe σ [i] ∧ _
    rw [hw]
    refine ⟨by simp [wipe], turn D acc p x H2 _ _ (by rw [e]; simp) hD ha2 (e3.trans e4) hit ?_ ?_⟩
    · intro hk y H3 e5 r
      have ha3 := e5 _ _ ha2
      have hl : acc.length < ps.length := by
        rw [hR.length, e, List.length_append, List.length_cons]
        have := List.length_filter_le keep done
        omega
      refine ⟨acc, ha3, by omega, fun a o h hn => ?_, done ++ [p], todo', by rw [e]; simp, rfl, Ext.upd_back (o := .lst []) hD ((e3.trans e4).trans e5) extB_upd, _, upd_same, ?_⟩
      · have : a ≠ D := fun z => by rw [z, ha2] at h; injection h with h; exact hn _ h.symm
        rw [upd_ne this]; exact e5 _ _ h
      · rw [List.filter_append, List.filter_cons_of_pos hk]
        exact (hR2.imp fun p y r => stab D p y _ _ _ ha3 extB_upd (stab D p y _ _ _ ha2 (extD e5) r)).append (.cons (stab D p y _ _ _ ha3 extB_upd r) .nil)
    · intro hk H3 e5
      refine ⟨K0.Ext.stay e5, done ++ [p], todo', by rw [e]; simp, rfl, (e3.trans e4).trans e5, acc, e5 _ _ ha2, ?_⟩
      rw [List.filter_append, List.filter_cons_of_neg (by simp [hk])]
      simpa using hR2.imp fun p y r => stab D p y _ _ _ ha2 (extD e5) r
section
variable {X : Cx} {σ : L2.St} {H : Hp} {Q : VK} {D : Ends}
theorem e0_lcGc (hx : X.xe = fun _ _ => False) {j k : Nat} {x : Str} {p posc : Pos} {e : Expr} {es : List Expr} {t : TA} {sp : SpI} {elt tg : Expr} {ifs : List Expr} {scope : Scope} {own : List (Str × Nat)} {pos : Pos} {g : TG} {tt : TT} {te : TE}
    (c : CalG X.prog X.w X.K X.mg X.base k x sp) (hr : Room j X.A) (hk : k + 2 ≤ j) (hg : Gl X x) (ha : PA X (e :: es) t)
    (hN : X.N.Nodup) (ok : BlkOk X.N X.env.scope scope own) (hnc : ∀ y ∈ scope.names, y.2 ≠ .cell)
    (hgt : ∀ (s : Shared) (H : Hp) (C : Addr) (cl : List (Str × Addr)) (fp : List Addr), PG (X.blk s H scope (compEnvC scope cl C X.env) fp) tg g) (ht : ∀ (s : Shared) (H : Hp) (C : Addr) (cl : List (Str × Addr)) (fp : List Addr), PTs (X.blk s H scope (compEnvC scope cl C X.env) fp) ifs tt)
    (hel : ∀ (s : Shared) (H : Hp) (C : Addr) (cl : List (Str × Addr)) (fp : List Addr), PE (X.blk s H scope (compEnvC scope cl C X.env) fp) elt te)
    (q : t σ H fun us H1 => ∃ its, sp (us ++ []) H1 its ∧ LgR its g tt te (own.map (·.2)) σ H1 Q) (hs : ∀ y, foldedSetIterable (.Call (.Name x p) (e :: es) [] posc) X.env y = pure y := by intro _; rfl)
    (hdb : (x == ("__debug__" : Str)) = false := by decide) (he : starEach (e :: es) X.env = (false, eval e X.env) :: starEach es X.env := by rfl) (hpl : (backTo posc (starEach es X.env)).any (·.1) = false := by rfl) :
    E0 X (.ListComp elt [⟨tg, .Call (.Name x p) (e :: es) [] posc, ifs, 0⟩] scope pos) σ H Q := by
  obtain ⟨f, fd, ps, F, hm, kp, b⟩ := c.ex
  exact K0.e0_lcG hx F (hr.mono hk) hg hm kp b .nil ha hN ok hnc hgt ht hel q hs hdb he hpl
theorem s0_setLcGc (hx : X.xe = fun _ _ => False) {i j k : Nat} {y : Str} {py spos : Pos} {x : Str} {p posc : Pos} {e : Expr} {es : List Expr} {t : TA} {sp : SpI} {elt tg : Expr} {ifs : List Expr} {scope : Scope} {own : List (Str × Nat)} {pos : Pos} {g : TG} {tt : TT} {te : TE}
    (c : CalG X.prog X.w X.K X.mg X.base k x sp) (hr : Room j X.A) (hk : k + 2 ≤ j) (hg : Gl X x) (ha : PA X (e :: es) t)
    (hN : X.N.Nodup) (hy : X.N[i]? = some y) (hyl : X.env.scope.names.lookup y = some .local) (hsw : swapsWith (.ListComp elt [⟨tg, .Call (.Name x p) (e :: es) [] posc, ifs, 0⟩] scope pos) (some (.Name y py)) spos.line X.env = pure true)
    (ok : BlkOk X.N X.env.scope scope own) (hnc : ∀ y ∈ scope.names, y.2 ≠ .cell)
    (hgt : ∀ (s : Shared) (H : Hp) (C : Addr) (cl : List (Str × Addr)) (fp : List Addr), PG (X.blk s H scope (compEnvC scope cl C X.env) fp) tg g) (ht : ∀ (s : Shared) (H : Hp) (C : Addr) (cl : List (Str × Addr)) (fp : List Addr), PTs (X.blk s H scope (compEnvC scope cl C X.env) fp) ifs tt)
    (hel : ∀ (s : Shared) (H : Hp) (C : Addr) (cl : List (Str × Addr)) (fp : List Addr), PE (X.blk s H scope (compEnvC scope cl C X.env) fp) elt te)
    (q : t σ H fun us H1 => ∃ its, sp (us ++ []) H1 its ∧ LgR its g tt te (own.map (·.2)) σ H1 fun v H1 => D.nx (σ.set i (some v)) H1) (hs : ∀ y, foldedSetIterable (.Call (.Name x p) (e :: es) [] posc) X.env y = pure y := by intro _; rfl)
    (hdb : (x == ("__debug__" : Str)) = false := by decide) (he : starEach (e :: es) X.env = (false, eval e X.env) :: starEach es X.env := by rfl) (hpl : (backTo posc (starEach es X.env)).any (·.1) = false := by rfl) :
    S0 X (.Assign [.Name y py] (.ListComp elt [⟨tg, .Call (.Name x p) (e :: es) [] posc, ifs, 0⟩] scope pos) spos) σ H D := by
  obtain ⟨f, fd, ps, F, hm, kp, b⟩ := c.ex
  exact K0.s0_setLcG hx F (hr.mono hk) hg hm kp b .nil ha hN hy hyl hsw ok hnc hgt ht hel q hs hdb he hpl
theorem e0_callc (hx : X.xe = fun _ _ => False) {j k : Nat} {x : Str} {p pos : Pos} {e : Expr} {es : List Expr} {t : TA} {sp : Sp0} (c : Cal0 X.prog X.w X.K X.mg X.base k x sp) (hr : Room j X.A) (hk : k ≤ j) (hg : Gl X x) (ha : PA X (e :: es) t) (q : t σ H fun vs H1 => sp (vs ++ []) H1 Q)
    (hdb : (x == ("__debug__" : Str)) = false := by decide) (he : starEach (e :: es) X.env = (false, eval e X.env) :: starEach es X.env := by rfl) (hpl : (backTo pos (starEach es X.env)).any (·.1) = false := by rfl) : E0 X (.Call (.Name x p) (e :: es) [] pos) σ H Q := by
  obtain ⟨f, fd, ps, F, hm, kp, b⟩ := c.ex
  exact K0.e0_call hx F (hr.mono hk) hg hm kp b .nil ha q hdb he hpl
end
theorem chosen_len (k : Nat) (l : List Str) : (KM.chosen l k).length ≤ 2 ^ l.length := by
  induction l generalizing k with
  | nil => cases k <;> simp [KM.chosen]
  | cons x r ih => cases k with
    | zero => rw [show KM.chosen (x :: r) 0 = [[]] from rfl]; exact Nat.one_le_two_pow
    | succ k =>
      rw [KM.chosen, List.length_append, List.length_map, List.length_cons, Nat.pow_succ]
      have := ih k
      have := ih (k + 1)
      omega
theorem held_len (Fs : List (List Str)) (l : List Str) (h : l.length ≤ 13) : (KM.held Fs l).length ≤ sizeLine := by
  unfold KM.held
  refine Nat.le_trans (List.length_filterMap_le _ _) (Nat.le_trans (chosen_len 4 l) (Nat.le_trans (Nat.pow_le_pow_right (by decide) h) (by decide)))
section
variable {P : Program} {w : World} {K : PySem.W.Frag} {mg : Str → Option Value} {base : Heap} {CP CC CT : Addr}
def spTexts (CC CT : Addr) : Sp0 := fun vs H Q => ∃ t G Fs, vs = [.ref t] ∧ TreeAt CC CT H t G Fs ∧ G.length ≤ 13 ∧ ∀ H' r, Ext H H' → H r = none → H' r = some (.lst (txs (KM.held Fs G))) → Q (.ref r) H'
theorem sc__law_texts : FnScope ["_law_tree_here", "_law_parting"] ["_law_tree_here"] (fnScope (top 64)) := ⟨rfl, rfl, rfl, by decide +kernel, rfl, by decide +kernel, by decide +kernel⟩
theorem texts_of {CP : Addr} {H : Hp} {D : Addr} {ps : List Pt} {acc : List V} (h : All2 (fun p y => y = V.str (ptText p)) ps acc) : acc = txs ps := by
  rw [h.map (f := fun p => V.str (ptText p))]; simp
theorem cal0_texts (T : TX K mg CP CC CT) (U : TY K mg) : Cal0 P w K mg base 17 "_law_texts" (spTexts CC CT) := by
  refine cal0_of U.d_texts sc__law_texts (fun _ _ _ _ _ _ us hl => match us, hl with | [_], _ => rfl) (fun vs H Q h => by obtain ⟨_, _, _, rfl, _⟩ := h; rfl) fun f cdv A outer s H vs Q hr h => ?_
  obtain ⟨t, G, Fs, rfl, ht, h13, q⟩ := h
  refine K0.s0s_one (K0.s0_ret (e0_lcGc (own := [("_law_parting", 1)]) (tt := tYes) rfl (calG_partings_of T U) hr (by decide) rfl (pa_cons (pv 0) pa_nil) sc__law_texts.nd (blkOk_by (N := ["_law_tree_here", "_law_parting"]) (sc := fnScope (top 64)) (own := [("_law_parting", 1)]) (by decide +kernel)) (by decide +kernel)
    (fun _ _ _ _ _ => pg_name (i := 1) sc__law_texts.nd rfl (Or.inl rfl)) (fun _ _ _ _ _ => pts_nil) (fun _ _ _ _ _ => pe_callTy (cr_str_met (met_strP T) hr (by decide)) (by rfl) (T.nb "str" (by decide)) (by decide +kernel) (pa_cons (pv 1) pa_nil)) ?_))
  refine ⟨_, rfl, _, ⟨t, G, Fs, rfl, ht, rfl⟩, ?_⟩
  refine lg_over (fun _ => true) (fun _ p y _ => y = .str (ptText p)) (held_len Fs G h13) (fun _ _ _ _ _ _ _ _ h => h) (fun D l p x H1 M N hp hD hl e hit hM hN => ?_) fun D H' acc hD e hl hR => ?_
  · obtain ⟨a, rfl, ha⟩ := hit
    obtain ⟨dx, _, _, _, _, _, h1, _⟩ := id ha
    dsimp only [tYes]
    rw [if_pos rfl]
    exact ⟨_, rfl, a, dx, _, rfl, h1, a, p, rfl, ha, _, rfl, hM rfl _ _ Ext.rfl' rfl⟩
  · rw [filter_all] at hR
    rw [texts_of (CP := CP) (H := H) (D := D) hR] at hl
    exact q H' D e hD hl
end
end G
end

section
set_option Elab.async false
set_option linter.all false
set_option maxRecDepth 100000
set_option maxHeartbeats 1000000
/-! == of partings, cuts and lists of them; the answers are right -/
namespace G
open PySem PySem.Spec PyProof.Rows L2
open K0 (GF SpI Item GSt GSts GStm GD gX WD Stay M0 F0 Sp0 E0 T0 S0 S0s LcG)
open C8 (fnScope fnBody fnArgs Cal Met Mak)
open SkE (call_str_str)
abbrev DP (K : PySem.W.Frag) (CP : Addr) : Eqb := fun x y b H => DNN x y b H ∨ (DNone K CP (REqP CP) x y b H ∨ DOwn K CP (REqP CP) x y b H)
theorem PartAt.uniq {C : Addr} {H : Hp} {a : Addr} {p q : Pt} (h : PartAt C H a p) (h' : PartAt C H a q) : p = q := by
  obtain ⟨dx, b, p1, p2, f, f4, h1, h2, h3, h4, _⟩ := h
  obtain ⟨dx', b', p1', p2', f', f4', k1, k2, k3, k4, _⟩ := h'
  rw [h1] at k1
  injection k1 with e
  injection e with _ _ e
  injection e with e _
  injection e with _ e
  injection e with e
  subst e
  rw [h2] at k2
  injection k2 with e
  injection e with e
  injection e with e1 e
  injection e with e2 _
  injection e1 with e1
  injection e2 with e2
  subst e1 e2
  have i1 := h3.inj k3
  have i2 := h4.inj k4
  obtain ⟨a1, a2, a3, a4⟩ := p
  obtain ⟨c1, c2, c3, c4⟩ := q
  simp at i1 i2
  obtain ⟨rfl, rfl⟩ := i1
  obtain ⟨rfl, rfl⟩ := i2
  rfl
theorem eqB_part {X : Cx} {CP : Addr} (c : Met X.prog X.w X.K X.mg X.base 3 CP "__eq__" (spB (REqP CP)) []) (hn : PySem.W.subIn X.K (.ref CP) (.type "NoneType") = some false) : EqB X 3 (DP X.K CP) := by
  obtain ⟨f, fd, ps, ds, hc, hm, F, b, d⟩ := c.ex
  cases d
  refine eqB_nn.or (RcB.eqB ((rcB_none (E := XK0) F hm.at_ hm.fn b passN hn).or (rcB_own (E := XK0) F hm.at_ hm.fn b passN)) (fun x y b H d => ?_) (fun x b H d => ?_))
  · rcases d with ⟨a, _, _, rfl, rfl, _⟩ | ⟨a, _, _, rfl, _⟩
    · exact ⟨fun i z => (by cases z), fun i j z => (by cases z), fun i j z => (by cases z)⟩
    · exact ⟨fun i z => (by cases z), fun i j z => (by cases z), fun i j z => (by cases z)⟩
  · rcases d with ⟨a, _, _, rfl, e, _⟩ | ⟨_, _, _, _, _, ⟨a, p, e1, h1, h⟩, _⟩
    · cases e
    · rcases h with ⟨c, q, e2, h2, rfl⟩ | ⟨e2, _⟩
      · rw [e1] at e2
        injection e2 with e2
        subst e2
        exact decide_eq_true (h1.uniq h2)
      · rw [e1] at e2; cases e2
theorem op_notIn_ans {X : Cx} {CP : Addr} {j : Nat} (K : PySem.W.Frag) (c : Met X.prog X.w X.K X.mg X.base 3 CP "__eq__" (spB (REqP CP)) []) (hr : Room j X.A) (hk : 4 ≤ j) (hn : PySem.W.subIn K (.ref CP) (.type "NoneType") = some false) (h : X.K = K := by rfl) : OpR X (compareOp .NotIn) (rInB K (DP K CP) true) := by
  subst h; exact op_notInB (eqB_part c hn) (hr.mono hk)
theorem dp_uniq {K : PySem.W.Frag} {CP : Addr} {H : Hp} {x y : V} {b b' : Bool} (h : DP K CP x y b H) (h' : DP K CP x y b' H) : b = b' := by
  have one : ∀ {x y : V} {b b' : Bool}, REqP CP x y b H → REqP CP x y b' H → b = b' := by
    rintro x y b b' ⟨a, p, rfl, hp, h⟩ ⟨a', p', e, hp', h'⟩
    injection e with e
    subst e
    rw [hp.uniq hp'] at h
    rcases h with ⟨c, q, rfl, hq, rfl⟩ | ⟨rfl, rfl⟩ <;> rcases h' with ⟨c', q', e, hq', rfl⟩ | ⟨e, rfl⟩
    · injection e with e
      subst e
      rw [hq.uniq hq']
    · cases e
    · cases e
    · rfl
  rcases h with ⟨rfl, rfl, rfl⟩ | ⟨a, _, _, rfl, rfl, _, h⟩ | ⟨a, _, _, rfl, _, h, _⟩ <;> rcases h' with ⟨e1, e2, rfl⟩ | ⟨a', _, _, e1, e2, _, h'⟩ | ⟨a', _, _, e1, _, h', _⟩ <;>
    first | rfl | (cases e1; done) | (cases e2; done) | exact one h h'
section
variable {P : Program} {w : World} {K : PySem.W.Frag} {mg : Str → Option Value} {base : Heap} {CP CC CT : Addr}
theorem dp_rr (T : TX K mg CP CC CT) {H : Hp} {a c : Addr} {p q : Pt} (ha : PartAt CP H a p) (hc : PartAt CP H c q) : DP K CP (.ref a) (.ref c) (decide (p = q)) H := by
  obtain ⟨dx, _, _, _, _, _, h1, _⟩ := id ha
  obtain ⟨dy, _, _, _, _, _, k1, _⟩ := id hc
  exact .inr (.inr ⟨a, dx, _, rfl, h1, ⟨a, p, rfl, ha, .inl ⟨c, q, rfl, hc, rfl⟩⟩, .inl ⟨c, CP, dy, _, rfl, k1, T.fP⟩⟩)
theorem dp_rn (T : TX K mg CP CC CT) {H : Hp} {a : Addr} {p : Pt} (ha : PartAt CP H a p) : DP K CP (.ref a) .non false H := by
  obtain ⟨dx, _, _, _, _, _, h1, _⟩ := id ha
  exact .inr (.inr ⟨a, dx, _, rfl, h1, ⟨a, p, rfl, ha, .inr ⟨rfl, rfl⟩⟩, .inr ⟨rfl, T.fPN⟩⟩)
theorem dp_nr {H : Hp} {a : Addr} {p : Pt} (ha : PartAt CP H a p) : DP K CP .non (.ref a) false H := by
  obtain ⟨dx, _, _, _, _, _, h1, _⟩ := id ha
  exact .inr (.inl ⟨a, dx, _, rfl, rfl, h1, ⟨a, p, rfl, ha, .inr ⟨rfl, rfl⟩⟩⟩)
/-! lists that are equal -/
abbrev RP (CP : Addr) : Addr → Addr → Hp → Prop := fun a b H => ∃ p, PartAt CP H a p ∧ PartAt CP H b p
abbrev RC (CC : Addr) : Addr → Addr → Hp → Prop := fun a b H => ∃ G F, CutAt CC H a G F ∧ CutAt CC H b G F
theorem met_imp {k : Nat} {C : Addr} {m : Str} {sp sp' : Sp} {dvs : List V} (c : Met P w K mg base k C m sp dvs) (h : ∀ vs H Q E, sp' vs H Q E → sp vs H Q E) : Met P w K mg base k C m sp' dvs := by
  obtain ⟨f, fd, ps, ds, hc, hm, F, b, d⟩ := c.ex
  exact ⟨f, fd, ps, ds, hc, hm, ⟨fun vs H Q E q => F.len _ _ _ _ (h _ _ _ _ q), fun A outer s H args us vs Q E hr e0 bb r q => F.run A outer s H args us vs Q E hr e0 bb r (h _ _ _ _ q)⟩, b, d⟩
end
theorem op_eq_ins {X : Cx} {C : Addr} {j : Nat} {R : Addr → Addr → Hp → Prop} (c : Met X.prog X.w X.K X.mg X.base 3 C "__eq__" (spEq R) []) (hR : ∀ a b H H', Ext H H' → R a b H → R a b H') (hr : Room j X.A) (hk : 4 ≤ j) : OpR X (compareOp .Eq) (rEqG (DList (DIns C R))) := by
  obtain ⟨f, fd, ps, ds, hc, hm, F, b, d⟩ := c.ex
  cases d
  exact op_eqG (rcG_list (mon_ins hR) (eqG_ins (E := XK0) F hm.at_ hm.fn b passN)) (hr.mono hk)
theorem op_eq_parts {X : Cx} {CP : Addr} {j : Nat} (c : Met X.prog X.w X.K X.mg X.base 3 CP "__eq__" (spB (REqP CP)) []) (hr : Room j X.A) (hk : 4 ≤ j) : OpR X (compareOp .Eq) (rEqG (DList (DIns CP (RP CP)))) :=
  op_eq_ins (met_imp c fun vs H Q E ⟨a, b, e, ⟨p, h1, h2⟩, q⟩ => ⟨.ref a, .ref b, true, e, ⟨a, p, rfl, h1, .inl ⟨b, p, rfl, h2, (decide_eq_true rfl).symm⟩⟩, q H Ext.rfl'⟩) (fun a b H H' e ⟨p, h1, h2⟩ => ⟨p, h1.ext e, h2.ext e⟩) hr hk
theorem op_eq_cutL {X : Cx} {CC : Addr} {j : Nat} (c : Met X.prog X.w X.K X.mg X.base 3 CC "__eq__" (spB (REqC CC)) []) (hr : Room j X.A) (hk : 4 ≤ j) : OpR X (compareOp .Eq) (rEqG (DList (DIns CC (RC CC)))) :=
  op_eq_ins (met_imp c fun vs H Q E ⟨a, b, e, ⟨G, F, h1, h2⟩, q⟩ => ⟨.ref a, .ref b, true, e, ⟨a, b, G, F, F, rfl, rfl, h1, h2, (decide_eq_true rfl).symm⟩, q H Ext.rfl'⟩) (fun a b H H' e ⟨G, F, h1, h2⟩ => ⟨G, F, h1.ext e, h2.ext e⟩) hr hk
theorem parts_eq {CP : Addr} {H : Hp} {a b : Addr} {xs ys : List V} {ps : List Pt} (ha : H a = some (.lst xs)) (hb : H b = some (.lst ys)) (h1 : All2 (fun p v => ∃ a, v = V.ref a ∧ PartAt CP H a p) ps xs) (h2 : All2 (fun p v => ∃ a, v = V.ref a ∧ PartAt CP H a p) ps ys) : DList (DIns CP (RP CP)) (.ref a) (.ref b) H := by
  refine ⟨a, b, xs, ys, rfl, rfl, ha, hb, ?_⟩
  clear ha hb
  induction h1 generalizing ys with
  | nil => cases h2; exact .nil
  | cons r _ ih =>
    cases h2 with
    | cons r' h2 =>
      obtain ⟨x, rfl, hx⟩ := r
      obtain ⟨y, rfl, hy⟩ := r'
      obtain ⟨dx, _, _, _, _, _, i1, _⟩ := id hx
      obtain ⟨dy, _, _, _, _, _, j1, _⟩ := id hy
      exact .cons ⟨x, y, dx, dy, _, _, rfl, rfl, i1, j1, _, hx, hy⟩ (ih h2)
theorem cuts_eq {CC : Addr} {H : Hp} {a b : Addr} {xs ys : List V} {G : List Str} {Fs : List (List Str)} (ha : H a = some (.lst xs)) (hb : H b = some (.lst ys)) (h1 : CutsAt CC H xs G Fs) (h2 : CutsAt CC H ys G Fs) : DList (DIns CC (RC CC)) (.ref a) (.ref b) H := by
  refine ⟨a, b, xs, ys, rfl, rfl, ha, hb, ?_⟩
  clear ha hb
  induction h1 generalizing ys with
  | nil => cases h2; exact .nil
  | cons r _ ih =>
    cases h2 with
    | cons r' h2 =>
      obtain ⟨x, rfl, hx⟩ := r
      obtain ⟨y, rfl, hy⟩ := r'
      obtain ⟨dx, _, _, _, i1, _⟩ := id hx
      obtain ⟨dy, _, _, _, j1, _⟩ := id hy
      exact .cons ⟨x, y, dx, dy, _, _, rfl, rfl, i1, j1, _, _, hx, hy⟩ (ih h2)
theorem op_ltPK {X : Cx} {CP : Addr} {j : Nat} (K : PySem.W.Frag) (c : Met X.prog X.w X.K X.mg X.base 2 CP "__lt__" (spLtP CP) []) (hr : Room j X.A) (hk : 2 ≤ j) (h : X.K = K := by rfl) : OpR X (compareOp .Lt) (rOwnC K CP (spLtP CP) XK0) := by subst h; exact op_met (op := .Lt) c hr hk
theorem ix_listK {X : Cx} (K : PySem.W.Frag) (h : X.K = K := by rfl) : IxR X (rIxL K) := by subst h; exact ix_list
theorem All2.get' {α β : Type} {R : α → β → Prop} {xs : List α} {ys : List β} (h : All2 R xs ys) : ∀ {j : Nat}, j < xs.length → ∃ x, xs[j]? = some x ∧ ∃ y, ys[j]? = some y ∧ R x y := by
  intro j hj
  obtain ⟨y, hy, r⟩ := All2.get h (List.getElem?_eq_getElem hj)
  exact ⟨_, List.getElem?_eq_getElem hj, y, hy, r⟩
/-! ### ascending -/
theorem chosen_asc : ∀ (l : List Str) (k : Nat), Asc l → (KM.chosen l k).Pairwise fun q q' => q ≠ q' ∧ PySem.W.listLt q q' = true
  | [], 0, _ => List.pairwise_singleton _ _
  | [], k + 1, _ => .nil
  | x :: r, 0, _ => List.pairwise_singleton _ _
  | x :: r, k + 1, h => by
    have hx := List.pairwise_cons.mp h
    rw [KM.chosen]
    refine List.pairwise_append.mpr ⟨?_, chosen_asc r (k + 1) hx.2, fun q hq q' hq' => ?_⟩
    · rw [List.pairwise_map]
      refine (chosen_asc r k hx.2).imp fun {a b} ⟨n, e⟩ => ⟨fun z => n (by injection z), ?_⟩
      unfold PySem.W.listLt
      rw [if_pos rfl]; exact e
    · obtain ⟨q0, _, rfl⟩ := List.mem_map.mp hq
      obtain ⟨hs, hl⟩ := KM.mem_chosen.mp hq'
      match q', hl with
      | y :: q1, _ =>
        have hy : y ∈ r := hs.subset List.mem_cons_self
        have hxy := hx.1 y hy
        have ne := sl_ne hxy
        refine ⟨fun z => ne (by injection z), ?_⟩
        unfold PySem.W.listLt
        rw [if_neg ne]
        exact decide_eq_true hxy
theorem held_asc (Fs : List (List Str)) {G : List Str} (h : Asc G) : (KM.held Fs G).Pairwise PtLt := by
  unfold KM.held
  rw [List.pairwise_filterMap]
  refine (chosen_asc G 4 h).imp_of_mem fun {q q'} hq hq' ⟨n, e⟩ b hb b' hb' => ?_
  exact ⟨q, q', List.Pairwise.sublist (KM.mem_chosen.mp hq).1 h, KM.ans4_four (G := G) hb, List.Pairwise.sublist (KM.mem_chosen.mp hq').1 h, KM.ans4_four (G := G) hb', n, e⟩
section
variable {X : Cx} {σ : L2.St} {H : Hp} {D : Ends}
theorem s0_forGc (hx : X.xe = fun _ _ => False) {j k : Nat} {x : Str} {p pos' pos : Pos} {e : Expr} {es : List Expr} {t : TA} {sp : SpI} {tg : Expr} {g : TG} {body : List Stmt} {tb : TS} (c : CalG X.prog X.w X.K X.mg X.base k x sp)
    (hr : Room j X.A) (hk : k + 2 ≤ j) (hg : Gl X x) (ha : PA X (e :: es) t) (hgt : PG X tg g) (hbd : PSs X body tb)
    (q : t σ H fun vs H1 => ∃ its2, sp (vs ++ []) H1 its2 ∧ ∃ Pv : List Item → L2.St → Hp → Prop, Pv its2 σ H1 ∧ (∀ σ H H', Pv [] σ H → K0.Ext H H' → D.nx σ H') ∧
      ∀ it rest σ H x H', Pv (it :: rest) σ H → K0.Ext H H' → it x H' → g x σ H' fun σ2 H2 => tb { nx := fun σ' H'' => Stay H' H'' ∧ Pv rest σ' H'', ct := fun σ' H'' => Stay H' H'' ∧ Pv rest σ' H'', rt := fun _ _ => False } σ2 H2)
    (hdb : (x == ("__debug__" : Str)) = false := by decide) (he : starEach (e :: es) X.env = (false, eval e X.env) :: starEach es X.env := by rfl) (hpl : (backTo pos (starEach es X.env)).any (·.1) = false := by rfl)
    (hs : ∀ y, foldedSetIterable (.Call (.Name x p) (e :: es) [] pos) X.env y = pure y := by intro _; rfl) : S0 X (.For tg (.Call (.Name x p) (e :: es) [] pos) body [] pos') σ H D := by
  obtain ⟨f, fd, ps, F, hm, kp, b⟩ := c.ex
  exact K0.s0_forG hx F (hr.mono hk) (fun _ _ _ => trivial) hg hm kp b .nil ha hgt hbd q hdb he hpl hs
end
section
variable {P : Program} {w : World} {K : PySem.W.Frag} {mg : Str → Option Value} {base : Heap} {CP CC CT : Addr}
def spAnsRight (CC CT : Addr) : Sp0 := fun vs H Q => ∃ t g G Fs, vs = [.ref t, .ref g] ∧ TreeAt CC CT H t G Fs ∧ TupS H g G ∧ G.length ≤ 13 ∧ ∀ H', Ext H H' → Q (.bl true) H'
theorem sc__law_answers_right : FnScope ["_law_tree_here", "_law_grown", "_law_due", "_law_four", "_law_answer", "_law_found", "_law_parting", "_law_k"] ["_law_tree_here", "_law_grown"] (fnScope (top 65)) := ⟨rfl, rfl, rfl, by decide +kernel, rfl, by decide +kernel, by decide +kernel⟩
theorem cal0_answers_right (T : TX K mg CP CC CT) (U : TY K mg) : Cal0 P w K mg base 17 "_law_answers_right" (spAnsRight CC CT) := by
  refine cal0_of U.d_answers_right sc__law_answers_right (fun _ _ _ _ _ _ us hl => match us, hl with | [_, _], _ => rfl) (fun vs H Q h => by obtain ⟨_, _, _, _, rfl, _⟩ := h; rfl) fun f cdv A outer s H vs Q hr h => ?_
  obtain ⟨t, g, G, Fs, rfl, ht, hg, h13, q⟩ := h
  obtain ⟨dx, n, o, us, h1, h2, h3, h4, h5, h6, h7, h8⟩ := id ht
  refine K0.s0s_cons (K0.s0_ps rfl (ps_set (i := 2) sc__law_answers_right.nd rfl (Or.inr rfl) (pe_lst pa_nil)) ?_)
  dsimp only [tNext, tRet, tCB, tCons, tNil, tC, tSeq, tIfS, tTest, tNot, tOr, tAnd, tB, tAndV, tOrV, tNotV, tIf, tDrop, tOp, tChain, rI0, tTup, tLst, tCall, tMeth, tMake, tProp, tFld, sFld, tAsg, gName, tYes, List.map, tNever, tPar, cxK, cxw, cxnK, cxnw, List.singleton_append, List.append_nil, List.cons_append, List.nil_append]
  refine ⟨by decide, fun L hL => ?_⟩
  have e0 := Ext.upd (o := .lst []) hL
  refine K0.s0s_cons (s0_forGc rfl (calG_fours_of T U) hr (by decide) rfl (pa_cons (pv 1) pa_nil) (pg_name (i := 3) sc__law_answers_right.nd rfl (Or.inl rfl)) (pss_cons (ps_set (i := 4) sc__law_answers_right.nd rfl (Or.inl rfl) (pe_callT (met_callT T) T.m_callT hr (by decide) (pv 0) (pa_cons (pe_ix ix_tup (pv 3) pe_int (fun _ _ => rfl)) (pa_cons (pe_ix ix_tup (pv 3) pe_int (fun _ _ => rfl)) (pa_cons (pe_ix ix_tup (pv 3) pe_int (fun _ _ => rfl)) (pa_cons (pe_ix ix_tup (pv 3) pe_int (fun _ _ => rfl)) pa_nil))))))
      (pss_cons (ps_if (pt_cmpR (op_notIn_ans K (met_eqP T) hr (by decide) T.sPN) (pv 4) (C8.pe_c (cal_answers_of T) hr (by decide) rfl (pa_cons (pv 3) pa_nil)) mk) (pss_one (ps_ret pe_bl)) pss_nil)
      (pss_one (ps_if (pt_cmpR op_notN (pv 4) pe_non (nomark _)) (pss_one (ps_expr (pe_bm PySem.F.plainAttrs_list PySem.F.slot_list_append PySem.F.type_list_append mt_append (pv 2) (pa_cons (pv 4) pa_nil)))) pss_nil)))) ?_)
  refine ⟨_, rfl, (KM.chosen G 4).map itT, ⟨g, G, rfl, hg.t.ext e0, h7.l40, rfl⟩, ?_⟩
  let Pv : List Item → L2.St → Hp → Prop := fun rest σ H' => ∃ done todo : List (List Str), KM.chosen G 4 = done ++ todo ∧ rest = todo.map itT ∧ Ext H H' ∧ ∃ acc x y, σ = [some (.ref t), some (.ref g), some (.ref L), x, y, none, none, none] ∧ H' L = some (.lst acc) ∧ All2 (fun p v => ∃ a, v = .ref a ∧ PartAt CP H' a p) (done.filterMap (KM.ans4 Fs)) acc
  have hcl : (KM.chosen G 4).length ≤ sizeLine := Nat.le_trans (chosen_len 4 G) (Nat.le_trans (Nat.pow_le_pow_right (by decide) h13) (by decide))
  refine ⟨Pv, ⟨[], _, rfl, rfl, e0, [], none, none, rfl, upd_same, .nil⟩, ?_, ?_⟩
  · rintro σ1 H1 H2 ⟨done, todo, e1, e2, e3, acc, x0, y0, rfl, hacc, hR⟩ e4
    have : todo = [] := by cases todo with
      | nil => rfl
      | cons _ _ => cases e2
    subst this
    rw [List.append_nil] at e1
    subst e1
    have e4 : Ext H1 H2 := e4
    have hacc2 := e4 _ _ hacc
    have hR2 : All2 (fun p v => ∃ a, v = V.ref a ∧ PartAt CP H2 a p) (KM.held Fs G) acc := hR.imp fun p v ⟨a, h, k⟩ => ⟨a, h, k.ext e4⟩
    have E2 := e3.trans e4
    refine K0.s0s_cons (s0_setLcGc (i := 5) (own := [("_law_parting", 6)]) (tt := tYes) rfl (calG_partings_of T U) hr (by decide) rfl (pa_cons (pv 0) pa_nil) sc__law_answers_right.nd rfl rfl (sw_true rfl rfl rfl (by decide +kernel)) (blkOk_by (N := ["_law_tree_here", "_law_grown", "_law_due", "_law_four", "_law_answer", "_law_found", "_law_parting", "_law_k"]) (sc := fnScope (top 65)) (own := [("_law_parting", 6)]) (by decide +kernel)) (by decide +kernel) (fun _ _ _ _ _ => (pg_name (i := 6) sc__law_answers_right.nd rfl (Or.inl rfl))) (fun _ _ _ _ _ => pts_nil) (fun _ _ _ _ _ => (pv 6)) ?_)
    refine ⟨_, rfl, _, ⟨t, G, Fs, rfl, ht.ext E2, rfl⟩, ?_⟩
    refine lg_over (fun _ => true) (fun _ p v H' => ∃ a, v = .ref a ∧ PartAt CP H' a p) (held_len Fs G h13) (fun D p y H1 H2 l hD e ⟨a, h, k⟩ => ⟨a, h, k.extL hD e⟩) (fun D l p x H1 M N hp hD hl e hit hM hN => ?_) fun D6 H6 acc6 hD6 e6 hl6 hR6 => ?_
    · dsimp only [tYes]
      rw [if_pos rfl]
      exact ⟨_, rfl, hM rfl _ _ Ext.rfl' hit⟩
    rw [filter_all] at hR6
    refine K0.s0s_one (K0.s0_ps rfl (ps_ret (pe_and (pe_cmpR (op_eq_parts (met_eqP T) hr (by decide)) (pv 5) (pv 2) mk) (pe_one (pe_cmpR (op_eqDt (α := List Int) (ltd hr (by decide))) (pe_lc (own := [("_law_k", 7)]) rfl sc__law_answers_right.nd (pi_range2 (by rfl) (T.nb "range" (by decide)) (pa_cons pe_int (pa_cons (pe_callB call_len (by rfl) (T.nb "len" (by decide)) (by decide +kernel) (pa_cons (pv 2) pa_nil)) pa_nil))) (blkOk_by (N := ["_law_tree_here", "_law_grown", "_law_due", "_law_four", "_law_answer", "_law_found", "_law_parting", "_law_k"]) (sc := fnScope (top 65)) (own := [("_law_k", 7)]) (by decide +kernel)) (fun _ _ _ _ _ => (pg_name (i := 7) sc__law_answers_right.nd rfl (Or.inl rfl))) (fun _ _ _ _ _ => (pts_one (pt_not (pt_cmpR (op_ltPK K (met_ltP T) hr (by decide)) (pe_ix (ix_listK K) (pv 2) (pe_op op_sub (pv 7) pe_int) (fun _ _ => rfl)) (pe_ix (ix_listK K) (pv 2) (pv 7) (fun _ _ => rfl)) mk)))) (fun _ _ _ _ _ => (pv 7))) (pe_lst pa_nil) mk)))) ?_)
    dsimp only [tNext, tRet, tCB, tCons, tNil, tC, tSeq, tIfS, tTest, tNot, tOr, tAnd, tB, tAndV, tOrV, tNotV, tIf, tDrop, tOp, tChain, rI0, tTup, tLst, tCall, tMeth, tMake, tProp, tFld, sFld, tAsg, gName, tYes, List.map, tNever, tPar, cxK, cxw, cxnK, cxnw, List.singleton_append, List.append_nil, List.cons_append, List.nil_append]
    have hacc6 := e6 _ _ hacc2
    have hR26 : All2 (fun p v => ∃ a, v = V.ref a ∧ PartAt CP H6 a p) (KM.held Fs G) acc := hR2.imp fun p v ⟨a, h, k⟩ => ⟨a, h, k.ext e6⟩
    refine ⟨_, rfl, _, rfl, parts_eq hl6 hacc6 hR6 hR26, fun H7 e7 => ⟨true, rfl, iteT ?_⟩⟩
    refine tlc_of ?_
    have hacc7 := e7 _ _ hacc6
    have lz : acc.length ≤ sizeLine := by rw [hR26.length]; exact held_len Fs G h13
    refine ⟨_, rfl, _, _, rfl, .inl ⟨_, .of hacc7, rfl⟩, ?_⟩
    refine ⟨_, _, rfl, ⟨by decide, by decide, by omega, ?_⟩, ?_⟩
    · have : sizeLine ≤ 1099511627776 := by decide
      omega
    refine lc_fil over_range (fun _ => false) (show 7 < 8 by decide) (fun _ _ => trivial) ?_ (fun x H8 M hx e8 hM => ?_) fun D9 H9 hD9 e9 hl9 => ?_
    · rw [List.length_map, List.length_range]; omega
    · obtain ⟨i, hi, rfl⟩ := List.mem_map.mp hx
      rw [List.mem_range] at hi
      have hi1 : i + 1 < acc.length := by omega
      have hacc8 := e8 _ _ hacc7
      have hR8 : All2 (fun p v => ∃ a, v = V.ref a ∧ PartAt CP H8 a p) (KM.held Fs G) acc := hR26.imp fun p v ⟨a, h, k⟩ => ⟨a, h, (k.ext e7).ext e8⟩
      have ll : acc.length = (KM.held Fs G).length := hR8.length
      obtain ⟨pa, hpa, _, ea, a, rfl, ha⟩ := All2.get' hR8 (j := i) (by omega)
      obtain ⟨pb, hpb, _, eb, b, rfl, hb⟩ := All2.get' hR8 (j := i + 1) (by omega)
      obtain ⟨dxa, _, _, _, _, _, ia, _⟩ := id ha
      obtain ⟨dxb, _, _, _, _, _, ib, _⟩ := id hb
      have hlt : PtLt pa pb := by
        have := List.pairwise_iff_getElem.mp (held_asc Fs h7.a) i (i + 1) (by omega) (by omega) (by omega)
        rw [List.getElem?_eq_getElem (by omega)] at hpa hpb
        injection hpa with hpa
        injection hpb with hpb
        rwa [hpa, hpb] at this
      refine ⟨_, rfl, _, rfl, _, _, rfl, rfl, L, acc, _, .ref a, rfl, rfl, .of hacc8, ?_, _, rfl, _, rfl, L, acc, _, .ref b, rfl, rfl, .of hacc8, ?_, ?_⟩
      · rw [show (1 : Int) + (i : Int) - 1 = (i : Int) by omega]; exact atI_nat ea
      · rw [show (1 : Int) + (i : Int) = ((i + 1 : Nat) : Int) by omega]; exact atI_nat eb
      · exact ⟨a, dxa, _, b, CP, dxb, _, rfl, rfl, ia, ib, T.fP, a, b, pa, pb, rfl, ha, hb, hlt, fun H9 e9 => ⟨true, rfl, hM _ e9⟩⟩
    · rw [List.filter_eq_nil_iff.mpr (fun _ _ => by decide)] at hl9
      refine ⟨by decide, fun L2 hL2 => ?_⟩
      refine ⟨[], [], .lst (.of ((Ext.upd hL2) _ _ hl9)) .nil, .lst (.of upd_same) .nil, ?_⟩
      rw [if_neg (by decide), decide_eq_true rfl]
      exact q _ (((E2.trans e6).trans (e7.trans e9)).trans (Ext.upd hL2))
  · rintro it rest σ1 H1 x H2 ⟨done, todo, e1, e2, e3, acc, x0, y0, rfl, hacc, hR⟩ e4 hit
    obtain ⟨q0, todo', rfl⟩ : ∃ q0 todo', todo = q0 :: todo' := by
      cases todo with
      | nil => cases e2
      | cons q0 r => exact ⟨q0, r, rfl⟩
    injection e2 with e2 e2'
    subst e2 e2'
    have e4 : Ext H1 H2 := e4
    have hmem : q0 ∈ KM.chosen G 4 := by rw [e1]; simp
    obtain ⟨hsub, hlen⟩ := KM.mem_chosen.mp hmem
    obtain ⟨a, b, c, d, rfl⟩ := KM.four_of hlen
    obtain ⟨pq, rfl, hpq⟩ := hit
    have E2 := e3.trans e4
    have aS : Asc [a, b, c, d] := List.Pairwise.sublist hsub h7.a
    have gS : ∀ s ∈ [a, b, c, d], GoodName s := fun s hs => h7.g s (hsub.subset hs)
    have lacc : acc.length < sizeLine := by
      rw [hR.length]
      have h1 := List.length_filterMap_le (KM.ans4 Fs) done
      have h2 := congrArg List.length e1
      rw [List.length_append, List.length_cons] at h2
      omega
    have fin : ∀ (v : V) (H3 H5 : Hp) (acc' : List V), Ext H2 H3 → Stay H2 H5 → Ext H H5 → H5 L = some (.lst acc') → All2 (fun p v => ∃ a, v = V.ref a ∧ PartAt CP H5 a p) ((done ++ [[a, b, c, d]]).filterMap (KM.ans4 Fs)) acc' →
        Stay H2 H5 ∧ Pv (todo'.map itT) [some (.ref t), some (.ref g), some (.ref L), some (.ref pq), some v, none, none, none] H5 := fun v H3 H5 acc' _ st e h r =>
      ⟨st, done ++ [[a, b, c, d]], todo', by rw [e1]; simp, rfl, e, acc', _, _, rfl, h, r⟩
    dsimp only [tNext, tRet, tCB, tCons, tNil, tC, tSeq, tIfS, tTest, tNot, tOr, tAnd, tB, tAndV, tOrV, tNotV, tIf, tDrop, tOp, tChain, rI0, tTup, tLst, tCall, tMeth, tMake, tProp, tFld, sFld, tAsg, gName, tYes, List.map, tNever, tPar, cxK, cxw, cxnK, cxnw, List.singleton_append, List.append_nil, List.cons_append, List.nil_append]
    refine ⟨_, rfl, t, rfl, _, rfl, pq, _, _, _, rfl, rfl, .of hpq, atI_nat (j := 0) rfl, _, rfl, pq, _, _, _, rfl, rfl, .of hpq, atI_nat (j := 1) rfl, _, rfl, pq, _, _, _, rfl, rfl, .of hpq, atI_nat (j := 2) rfl, _, rfl, pq, _, _, _, rfl, rfl, .of hpq, atI_nat (j := 3) rfl, ⟨dx, _, E2 _ _ h1⟩, ?_⟩
    refine ⟨t, a, b, c, d, G, Fs, rfl, ht.ext E2, aS, fun x hx => hsub.subset hx, fun hno H3 e5 => ?_, fun p r H3 hp e5 fr hpt => ?_⟩
    · refine ⟨_, rfl, _, rfl, pq, a, b, c, d, rfl, .tup (e5 _ _ hpq), aS, gS, fun p3 x3 y3 z3 H4 e6 hp3 hx3 hy3 hz3 => ?_⟩
      refine ⟨p3, _, [true, false, false, false], rfl, .of hp3, fun _ _ _ h h' => dp_uniq h h', ⟨_, _, rfl, .inl ⟨rfl, rfl, rfl⟩, _, _, rfl, dp_rn T hx3, _, _, rfl, dp_rn T hy3, _, _, rfl, dp_rn T hz3, rfl⟩, ?_⟩
      refine ⟨false, rfl, iteF ?_⟩
      refine ⟨_, rfl, rfl, false, rfl, iteF ?_⟩
      have e56 := e5.trans e6
      refine fin .non H3 H4 acc e5 (K0.Ext.stay e56) (E2.trans e56) (e56 _ _ (e4 _ _ hacc)) ?_
      rw [List.filterMap_append]
      have : KM.ans4 Fs [a, b, c, d] = none := hno
      simp only [List.filterMap_cons, this, List.filterMap_nil, List.append_nil]
      exact hR.imp fun p v ⟨a, h, k⟩ => ⟨a, h, k.ext (e4.trans e56)⟩
    · refine ⟨_, rfl, _, rfl, pq, a, b, c, d, rfl, .tup (e5 _ _ hpq), aS, gS, fun p3 x3 y3 z3 H4 e6 hp3 hx3 hy3 hz3 => ?_⟩
      have hpt4 := hpt.ext e6
      refine ⟨p3, _, [false, decide ((⟨a, b, c, d⟩ : Pt) = p), decide ((⟨a, c, b, d⟩ : Pt) = p), decide ((⟨a, d, b, c⟩ : Pt) = p)], rfl, .of hp3, fun _ _ _ h h' => dp_uniq h h', ⟨_, _, rfl, dp_nr hpt4, _, _, rfl, dp_rr T hx3 hpt4, _, _, rfl, dp_rr T hy3 hpt4, _, _, rfl, dp_rr T hz3 hpt4, rfl⟩, ?_⟩
      have hany : ([false, decide ((⟨a, b, c, d⟩ : Pt) = p), decide ((⟨a, c, b, d⟩ : Pt) = p), decide ((⟨a, d, b, c⟩ : Pt) = p)] : List Bool).any id = true := by
        obtain ⟨F, _, hc⟩ := KM.ans_some hp
        rcases (KM.code_some.mp hc).1 with e | e | e <;> simp [e]
      rw [hany, if_pos rfl]
      refine ⟨false, rfl, iteF ?_⟩
      refine ⟨_, rfl, rfl, true, rfl, iteT ?_⟩
      have e56 := e5.trans e6
      have hacc4 := e56 _ _ (e4 _ _ hacc)
      refine ⟨_, rfl, .inl ⟨rfl, _, .of hacc4⟩, _, rfl, L, acc, _, rfl, rfl, hacc4, lacc, ?_⟩
      refine fin (.ref r) H3 _ (acc ++ [.ref r]) e5 (fun x o h hn => ?_) (Ext.upd_back (o := .lst []) hL (E2.trans e56) extB_upd) upd_same ?_
      · have : x ≠ L := fun z => by
          have h' := e4 _ _ hacc
          rw [z, h'] at h; injection h with h; exact hn _ h.symm
        rw [upd_ne this]; exact e56 _ _ h
      · rw [List.filterMap_append]
        have : KM.ans4 Fs [a, b, c, d] = some p := hp
        simp only [List.filterMap_cons, this, List.filterMap_nil]
        exact (hR.imp fun p v ⟨a, h, k⟩ => ⟨a, h, (k.ext (e4.trans e56)).extL hacc4 extB_upd⟩).append (.cons ⟨r, rfl, hpt4.extL hacc4 extB_upd⟩ .nil)
end
end G
end

section
set_option linter.all false
/-! texts of partings: what a tree holds -/
namespace G
open PySem PySem.Spec PyProof.Rows
theorem CutOk.cok {G F : List Str} (ok : CutOk G F) : KM.COk sl G F := by
  have two : ∀ {l : List Str}, l.Nodup → 2 ≤ l.length → ∃ a ∈ l, ∃ b ∈ l, a ≠ b := fun {l} hn h => by
    match l, hn, h with
    | a :: b :: r, hn, _ =>
      refine ⟨a, by simp, b, by simp, fun e => ?_⟩
      subst e
      simp at hn
  obtain ⟨b1, h1, b2, h2, hb⟩ := two ok.aF.nodup ok.f2
  obtain ⟨a1, k1, a2, k2, ha⟩ := two (Asc.filter ok.aG _).nodup ok.n2
  obtain ⟨k1, k1'⟩ := mem_near.mp k1
  obtain ⟨k2, k2'⟩ := mem_near.mp k2
  exact ⟨ok.aF, ok.sub, ⟨b1, h1, b2, h2, hb⟩, ⟨a1, k1, a2, k2, k1', k2', ha⟩, ok.h⟩
theorem pt_ok {G : List Str} {p : Pt} (g : ∀ x ∈ G, GoodName x) (o : p.Ord sl) (m : ∀ x ∈ KM.Pt.four p, x ∈ G) : p.Ok := ⟨o.hp, o.hq, o.h, fun s hs => g s (m s hs)⟩
abbrev tx (l : List Pt) : List Str := l.map ptText
section
variable {G : List Str} {T : List (List Str)}
theorem held_ok (hG : HostsOk G) (hT : KM.AllCmp G T) {p : Pt} (h : p ∈ KM.held T G) : p.Ok := by
  obtain ⟨o, m, _⟩ := (KM.mem_held lo_sl hG.a hT).mp h
  exact pt_ok hG.g o m
theorem mem_tx (hG : HostsOk G) (hT : KM.AllCmp G T) {p : Pt} (ok : p.Ok) : ptText p ∈ tx (KM.held T G) ↔ p ∈ KM.held T G := by
  constructor
  · intro h
    obtain ⟨q, hq, e⟩ := List.mem_map.mp h
    rw [← ptText_inj (held_ok hG hT hq) ok e]; exact hq
  · exact fun h => List.mem_map.mpr ⟨p, h, rfl⟩
theorem cut_texts (hG : HostsOk G) (hT : KM.AllCmp G T) (hO : ∀ F ∈ T, CutOk G F) {F : List Str} (ok : CutOk G F) : F ∈ T ↔ ∀ x ∈ tx (madeL G F), x ∈ tx (KM.held T G) := by
  rw [KM.cut_iff lo_sl hG.a hT (fun F h => (hO F h).cok) ok.cok]
  constructor
  · intro h x hx
    obtain ⟨p, hp, rfl⟩ := List.mem_map.mp hx
    obtain ⟨o, m, k⟩ := (made_iff ok).mp hp
    exact List.mem_map.mpr ⟨p, h p o m k, rfl⟩
  · intro h p o m k
    exact (mem_tx hG hT (pt_ok hG.g o m)).mp (h _ (List.mem_map.mpr ⟨p, (made_iff ok).mpr ⟨o, m, k⟩, rfl⟩))
theorem held_nodup (hG : HostsOk G) : (KM.held T G).Nodup := by
  refine (held_asc T hG.a).imp fun {a b} h e => ?_
  subst e
  obtain ⟨fx, fy, a1, p1, a2, p2, ne, _⟩ := h
  exact ne (asc_uniq a1 a2 fun k => (p1.trans p2.symm).mem_iff)
theorem tx_nodup (hG : HostsOk G) (hT : KM.AllCmp G T) : (tx (KM.held T G)).Nodup := by
  have h := held_nodup (T := T) hG
  have ok : ∀ p : Pt, p ∈ KM.held T G → Pt.Ok p := fun p hp => held_ok hG hT hp
  generalize KM.held T G = l at h ok
  induction l with
  | nil => exact .nil
  | cons x r ih =>
    obtain ⟨h1, h2⟩ := List.nodup_cons.mp h
    refine List.nodup_cons.mpr ⟨fun hm => ?_, ih h2 fun p hp => ok p (List.mem_cons_of_mem _ hp)⟩
    obtain ⟨y, hy, e⟩ := List.mem_map.mp hm
    rw [ptText_inj (ok y (List.mem_cons_of_mem _ hy)) (ok x List.mem_cons_self) e] at hy
    exact h1 hy
/-- below: as the texts tell -/
theorem le_texts {T' : List (List Str)} (hG : HostsOk G) (hT : KM.AllCmp G T) (hT' : KM.AllCmp G T') (hO : ∀ F ∈ T, CutOk G F) (hO' : ∀ F ∈ T', CutOk G F) : (∀ F ∈ T, F ∈ T') ↔ ∀ x ∈ tx (KM.held T G), x ∈ tx (KM.held T' G) := by
  rw [KM.le_iff lo_sl hG.a hT hT' (fun F h => (hO F h).cok) fun F h => (hO' F h).cok]
  constructor
  · intro h x hx
    obtain ⟨p, hp, rfl⟩ := List.mem_map.mp hx
    exact List.mem_map.mpr ⟨p, h p hp, rfl⟩
  · intro h p hp
    exact (mem_tx hG hT' (held_ok hG hT hp)).mp (h _ (List.mem_map.mpr ⟨p, hp, rfl⟩))
theorem asck_uniq : ∀ {l l' : List (List Str)}, AscK l → AscK l' → (∀ F, F ∈ l ↔ F ∈ l') → l = l'
  | [], [], _, _, _ => rfl
  | [], y :: r, _, _, h => by have := (h y).mpr List.mem_cons_self; simp at this
  | x :: r, [], _, _, h => by have := (h x).mp List.mem_cons_self; simp at this
  | x :: r, y :: t, h, k, e => by
    have hx := List.pairwise_cons.mp h
    have hy := List.pairwise_cons.mp k
    have exy : x = y := by
      rcases List.mem_cons.mp ((e x).mp List.mem_cons_self) with q | q
      · exact q
      · rcases List.mem_cons.mp ((e y).mpr List.mem_cons_self) with z | z
        · exact z.symm
        · exact absurd (sl_trans (hy.1 x q) (hx.1 y z)) (sl_irr _)
    subst exy
    congr 1
    refine asck_uniq hx.2 hy.2 fun z => ⟨fun hz => ?_, fun hz => ?_⟩
    · rcases List.mem_cons.mp ((e z).mp (List.mem_cons_of_mem _ hz)) with q | q
      · exact absurd (q ▸ hx.1 z hz) (sl_irr _)
      · exact q
    · rcases List.mem_cons.mp ((e z).mpr (List.mem_cons_of_mem _ hz)) with q | q
      · exact absurd (q ▸ hy.1 z hz) (sl_irr _)
      · exact q
end
theorem rest_nil {l f : List Str} : restOf l f = [] ↔ ∀ x ∈ l, x ∈ f := by
  unfold restOf
  rw [List.filter_eq_nil_iff]
  constructor
  · intro h x hx
    have := h x hx
    simpa using this
  · intro h x hx
    simpa using h x hx
end G
end

section
set_option Elab.async false
set_option linter.all false
set_option maxRecDepth 100000
set_option maxHeartbeats 1000000
/-! the cuts are right -/
namespace G
open PySem PySem.Spec PyProof.Rows L2
open K0 (GF SpI Item GSt GSts GStm GD gX WD Stay M0 F0 Sp0 E0 T0 S0 S0s LcG)
open C8 (fnScope fnBody fnArgs Cal Met Mak)
open SkE (call_str_str)
def rEqLen (K : PySem.W.Frag) : R2 := fun x y H Q => ∃ a b xs ys, x = .ref a ∧ y = .ref b ∧ SqL K H a xs ∧ SqL K H b ys ∧ xs.length ≠ ys.length ∧ Q (.bl false) H
theorem op_eqLen {X : Cx} (hu : X.A.units < cLine) : OpR X (compareOp .Eq) (rEqLen X.K) := by
  intro pins s σ H x y v u Q I rx ry h
  obtain ⟨a, b, xs, ys, rfl, rfl, ha, hb, hn, q⟩ := h
  cases rx
  cases ry
  obtain ⟨its, r, p, z⟩ := I.list ha
  obtain ⟨its2, r2, p2, z2⟩ := I.list hb
  exact PySem.SeqAt.RcAt.lists_lengths p.isList p2.isList (by rw [List.size_toArray, List.size_toArray, ← r.length, ← r2.length]; simpa using hn) hu X.prog X.w _ _ ⟨.bl false, H, I, rfl, q⟩
/-! ### sizes -/
def tri : Nat → Nat
  | 0 => 0
  | n + 1 => tri n + n
theorem tri7 : ∀ n, n ≤ 7 → tri n ≤ 21 := by
  intro n hn
  have : ∀ n < 8, tri n ≤ 21 := by decide
  exact this n (by omega)
theorem tlen2 {f y : Str} {F : List Str} : ∀ n, (made2 f y F n).length ≤ tri n
  | 0 => by simp [made2, tri]
  | n + 1 => by
    rw [made2_succ, List.length_append]
    have := tlen2 (f := f) (y := y) (F := F) n
    have h3 : (made3 f y F n).length ≤ n := by unfold made3; rw [List.length_map, List.length_take]; omega
    show _ ≤ tri n + n
    omega
theorem tlen1 {N F : List Str} {a : Nat} (h : F.length ≤ 7) : (made1 N F a a).length ≤ a * 21 := by
  have := flat_len (l := (N.take a).take a) (f := fun f => made2 f (N.getD a Str.empty) F F.length) (b := 21) fun _ _ => Nat.le_trans (tlen2 _) (tri7 _ h)
  unfold made1
  have hl : ((N.take a).take a).length ≤ a := by rw [List.length_take]; omega
  have : ((N.take a).take a).length * 21 ≤ a * 21 := Nat.mul_le_mul_right _ hl
  omega
theorem tlen0 {N F : List Str} (h : F.length ≤ 7) : ∀ n, (made0 N F n).length ≤ tri n * 21
  | 0 => by simp [made0]
  | n + 1 => by
    rw [made0_succ, List.length_append]
    have := tlen0 (N := N) h n
    have := tlen1 (N := N) (a := n) h
    show _ ≤ (tri n + n) * 21
    omega
theorem made_len {G F : List Str} (ok : CutOk G F) (h7 : G.length ≤ 7) : (madeL G F).length ≤ 441 := by
  have lN : (nearOf G F).length ≤ 7 := Nat.le_trans (List.length_filter_le _ _) h7
  have lF : F.length ≤ 7 := Nat.le_trans (KM.asc_sub lo_sl ok.aF ok.aG ok.sub).length_le h7
  have := tlen0 (N := nearOf G F) lF (nearOf G F).length
  have := tri7 _ lN
  have : tri (nearOf G F).length * 21 ≤ 21 * 21 := Nat.mul_le_mul_right _ this
  unfold madeL
  omega
/-- all partings of the cuts of T -/
def madeAll (G : List Str) (T Fs : List (List Str)) : List Pt := (Fs.filter fun F => decide (F ∈ T)).flatMap (madeL G)
theorem subs_nodup {t : List Str} (h : t.Nodup) : (subsT t).Nodup := by
  revert h
  refine snoc_ind (P := fun t => t.Nodup → (subsT t).Nodup) (fun _ => by simp [subsT]) (fun t n ih hn => ?_) t
  rw [List.nodup_append] at hn
  rw [subsT_snoc]
  refine List.nodup_append.mpr ⟨ih hn.1, ?_, fun x hx y hy e => ?_⟩
  · exact List.pairwise_map.mpr ((ih hn.1).imp fun {a b} h e => h (List.append_cancel_right e))
  · subst e
    obtain ⟨F, _, rfl⟩ := List.mem_map.mp hy
    have : n ∈ t := (mem_subs.mp hx).subset (by simp)
    exact hn.2.2 n this n (by simp) rfl
theorem allF_nodup {G : List Str} (h : G.Nodup) : (allF G).Nodup := by
  match G, h with
  | [], _ => exact .nil
  | g :: t, h => exact List.Nodup.sublist (List.filter_sublist) (subs_nodup (List.nodup_cons.mp h).2)
theorem madeAll_len {G : List Str} {T Fs : List (List Str)} (hf : Fs.Nodup) (hok : ∀ F ∈ T, CutOk G F) (h7 : G.length ≤ 7) (h6 : T.length ≤ 6) : (madeAll G T Fs).length ≤ 2646 := by
  have h1 := flat_len (l := Fs.filter fun F => decide (F ∈ T)) (f := madeL G) (b := 441) fun F hF => made_len (hok F (of_decide_eq_true (List.mem_filter.mp hF).2)) h7
  have h2 : (Fs.filter fun F => decide (F ∈ T)).length ≤ T.length := (List.Nodup.sublist List.filter_sublist hf).length_le_of_subset fun F hF => of_decide_eq_true (List.mem_filter.mp hF).2
  have : (Fs.filter fun F => decide (F ∈ T)).length * 441 ≤ 6 * 441 := Nat.mul_le_mul_right _ (by omega)
  unfold madeAll
  omega
/-- which cuts, by their sides -/
noncomputable def keepX (CC : Addr) (H : Hp) (G : List Str) (R : List Str → Prop) : V → Bool := fun x => @decide (∃ a F, x = .ref a ∧ CutAt CC H a G F ∧ R F) (Classical.propDecidable _)
theorem keepX_of {CC : Addr} {H : Hp} {a : Addr} {G F : List Str} {R : List Str → Prop} (h : CutAt CC H a G F) {b : Bool} (hb : b = true ↔ R F) : keepX CC H G R (.ref a) = b := by
  cases hc : b with
  | true => exact @decide_eq_true _ (Classical.propDecidable _) ⟨a, F, rfl, h, hb.mp hc⟩
  | false =>
    refine @decide_eq_false _ (Classical.propDecidable _) fun z => ?_
    obtain ⟨a', F', e, h', k⟩ := z
    injection e with e
    subst e
    rw [← h.uniq h'] at k
    rw [hb.mpr k] at hc; cases hc
theorem keepX_all {CC : Addr} {H : Hp} {us : List V} {G : List Str} {Fs : List (List Str)} {R : List Str → Prop} (f : List Str → Bool) (hf : ∀ F ∈ Fs, f F = true ↔ R F) (h : CutsAt CC H us G Fs) : CutsAt CC H (us.filter (keepX CC H G R)) G (Fs.filter f) := by
  induction h with
  | nil => exact .nil
  | cons r _ ih =>
    rename_i x F xs Fs0 _
    have ih := ih fun F hF => hf F (List.mem_cons_of_mem _ hF)
    obtain ⟨a, rfl, ha⟩ := r
    have hk := keepX_of ha (hf F List.mem_cons_self)
    cases hb : f F with
    | true =>
      rw [List.filter_cons_of_pos (by rw [hk, hb]), List.filter_cons_of_pos hb]
      exact .cons ⟨a, rfl, ha⟩ ih
    | false =>
      rw [List.filter_cons_of_neg (by rw [hk, hb]; simp), List.filter_cons_of_neg (by rw [hb]; simp)]
      exact ih
theorem madeAll_succ {G : List Str} {T Fs : List (List Str)} {j : Nat} {F : List Str} (h : Fs[j]? = some F) : madeAll G T (Fs.take (j + 1)) = madeAll G T (Fs.take j) ++ (if F ∈ T then madeL G F else []) := by
  have htk : Fs.take (j + 1) = Fs.take j ++ [F] := by rw [List.take_add_one, h]; rfl
  unfold madeAll
  rw [htk, List.filter_append, List.flatMap_append]
  by_cases m : F ∈ T
  · rw [List.filter_cons_of_pos (p := fun F => decide (F ∈ T)) (decide_eq_true m), if_pos m]; simp
  · rw [List.filter_cons_of_neg (p := fun F => decide (F ∈ T)) (by simpa using m), if_neg m]; simp
theorem mem_madeAll {G : List Str} {T : List (List Str)} (hG : HostsOk G) (hT : KM.AllCmp G T) (hO : ∀ F ∈ T, CutOk G F) {p : Pt} : p ∈ madeAll G T (allF G) ↔ p ∈ KM.held T G := by
  unfold madeAll
  rw [List.mem_flatMap, KM.mem_held lo_sl hG.a hT]
  constructor
  · rintro ⟨F, hF, hp⟩
    have hFT := of_decide_eq_true (List.mem_filter.mp hF).2
    obtain ⟨o, m, k⟩ := (made_iff (hO F hFT)).mp hp
    exact ⟨o, m, F, hFT, k⟩
  · rintro ⟨o, m, F, hF, k⟩
    exact ⟨F, List.mem_filter.mpr ⟨allF_all (hO F hF), decide_eq_true hF⟩, (made_iff (hO F hF)).mpr ⟨o, m, k⟩⟩
section
variable {P : Program} {w : World} {K : PySem.W.Frag} {mg : Str → Option Value} {base : Heap} {CP CC CT : Addr}
def spCutsRight (CC CT : Addr) : Sp0 := fun vs H Q => ∃ t g G Fs, vs = [.ref t, .ref g] ∧ TreeAt CC CT H t G Fs ∧ TupS H g G ∧ G.length ≤ 7 ∧ Fs.length ≤ 6 ∧ ∀ H', Ext H H' → Q (.bl true) H'
theorem sc__law_cuts_right : FnScope ["_law_tree_here", "_law_grown", "_law_held", "_law_made_here", "_law_cut_here", "_law_mine", "_law_parting", "_law_one"] ["_law_tree_here", "_law_grown"] (fnScope (top 66)) := ⟨rfl, rfl, rfl, by decide +kernel, rfl, by decide +kernel, by decide +kernel⟩
theorem cal0_cuts_right (T : TX K mg CP CC CT) (U : TY K mg) : Cal0 P w K mg base 18 "_law_cuts_right" (spCutsRight CC CT) := by
  refine cal0_of U.d_cuts_right sc__law_cuts_right (fun _ _ _ _ _ _ us hl => match us, hl with | [_, _], _ => rfl) (fun vs H Q h => by obtain ⟨_, _, _, _, rfl, _⟩ := h; rfl) fun f cdv A outer s H vs Q hr h => ?_
  obtain ⟨t, g, G, Fs, rfl, ht, hg, h7, h6', q⟩ := h
  obtain ⟨dx, n, o, us, h1, h2, h3, h4, h5, h6, hG, h8⟩ := id ht
  refine K0.s0s_cons (K0.s0_asg rfl (pg_tup (by rfl) (pgs_cons (pg_name (i := 2) sc__law_cuts_right.nd rfl (Or.inr rfl)) (pgs_cons (pg_name (i := 3) sc__law_cuts_right.nd rfl (Or.inl rfl)) pgs_nil))) (K0.e0_tup2 ?_))
  refine e0_callc rfl (cal0_texts T U) hr (by decide) rfl (pa_cons (pv 0) pa_nil) ?_
  refine ⟨_, rfl, t, G, Fs, rfl, ht, by omega, fun H1 rh e1 hrh hh => ?_⟩
  refine K0.e0_pe rfl (pe_lst pa_nil) ?_
  refine ⟨by decide, fun L0 hL0 pt hpt => ?_⟩
  have e2 := (Ext.upd (o := .lst []) hL0).trans (Ext.upd (o := .tup [.ref rh, .ref L0]) hpt)
  refine ⟨pt, _, rfl, .of upd_same, rfl, _, _, rfl, _, _, rfl, rfl, ?_⟩
  have hl0 : (upd (upd H1 L0 (.lst [])) pt (.tup [.ref rh, .ref L0])) L0 = some (.lst (txs (madeAll G Fs []))) := (Ext.upd hpt) _ _ upd_same
  generalize upd (upd H1 L0 (.lst [])) pt (.tup [.ref rh, .ref L0]) = H2 at *
  have E2 := e1.trans e2
  have hh := e2 _ _ hh
  refine K0.s0s_cons (K0.s0_ps rfl (ps_for PassesOwn.never rfl (pi_seq (C8.pe_c (cal__law_all_cuts T) hr (by decide) rfl (pa_cons (pv 1) pa_nil))) (pg_name (i := 4) sc__law_cuts_right.nd rfl (Or.inl rfl)) (pss_cons (ps_set (i := 5) sc__law_cuts_right.nd rfl (Or.inl rfl) (C8.pe_c (cal__law_made T) hr (by decide) rfl (pa_cons (pv 4) pa_nil)))
      (pss_cons (ps_if (pt_cmpR (op_neDt (α := Bool) (ltd hr (by decide))) (pe_cmpR (op_in_met (met_hasT T) hr (by decide)) (pv 4) (pv 0) mk) (pe_cmpR (op_eqDt (α := List Str) (ltd hr (by decide))) (pe_lc (own := [("_law_one", 7)]) rfl sc__law_cuts_right.nd (pi_seq (pv 5)) (blkOk_by (N := ["_law_tree_here", "_law_grown", "_law_held", "_law_made_here", "_law_cut_here", "_law_mine", "_law_parting", "_law_one"]) (sc := fnScope (top 66)) (own := [("_law_one", 7)]) (by decide +kernel)) (fun _ _ _ _ _ => (pg_name (i := 7) sc__law_cuts_right.nd rfl (Or.inl rfl))) (fun _ _ _ _ _ => (pts_one (pt_cmpR (opNotIn K) (pv 7) (pv 2) mk))) (fun _ _ _ _ _ => (pv 7))) (pe_lst pa_nil) mk) mk) (pss_one (ps_ret pe_bl)) pss_nil)
      (pss_one (ps_set (i := 3) sc__law_cuts_right.nd rfl (Or.inl rfl) (pe_op op_cat (pv 3) (pe_op op_rep (pv 5) (pe_callTy call_int1 (by rfl) (T.nb "int" (by decide)) (by decide +kernel) (pa_cons (pe_cmpR (op_in_met (met_hasT T) hr (by decide)) (pv 4) (pv 0) mk) pa_nil))))))))) ?_)
  dsimp only [tNext, tRet, tCB, tCons, tNil, tC, tSeq, tIfS, tTest, tNot, tOr, tAnd, tB, tAndV, tOrV, tNotV, tIf, tDrop, tOp, tChain, rI0, tTup, tLst, tCall, tMeth, tMake, tProp, tFld, sFld, tAsg, gName, tYes, List.map, tNever, tPar, cxK, cxw, cxnK, cxnw, List.singleton_append, List.append_nil, List.cons_append, List.nil_append]
  have hO : ∀ F ∈ Fs, CutOk G F := h4.ok
  have ht2 := ht.ext E2
  refine tfor_of ?_
  refine ⟨_, rfl, g, G, rfl, E2 _ _ hg, hG, h7, fun H3 rc usc e3 hrc husc csc => ?_⟩
  have E3 := E2.trans e3
  refine iseq_of (Sq.lst husc) fun J st ov hst => ?_
  have mlen : ∀ j, (madeAll G Fs ((allF G).take j)).length ≤ 2646 := fun j => madeAll_len (List.Nodup.sublist (List.take_sublist _ _) (allF_nodup hG.a.nodup)) hO h7 h6'
  refine for_over ov (fun j σ' H' => Ext H3 H' ∧ ∃ L x4 x5, σ' = [some (.ref t), some (.ref g), some (.ref rh), some (.ref L), x4, x5, none, none] ∧ H' L = some (.lst (txs (madeAll G Fs ((allF G).take j))))) ⟨Ext.rfl', L0, none, none, rfl, e3 _ _ hl0⟩ (fun j σ' H' w => hst _ w.1) (fun j σ' H4 x w hx => ?_) fun σ' H4 w => ?_
  · obtain ⟨e4, L, x4, x5, rfl, hL⟩ := w
    have E4 := E3.trans e4
    obtain ⟨F, hF, c, rfl, hc⟩ := All2.get csc hx
    have hcF : CutOk G F := hc.ok
    have hc4 := hc.ext e4
    have hh4 := (e3.trans e4) _ _ hh
    dsimp only [tNext, tRet, tCB, tCons, tNil, tC, tSeq, tIfS, tTest, tNot, tOr, tAnd, tB, tAndV, tOrV, tNotV, tIf, tDrop, tOp, tChain, rI0, tTup, tLst, tCall, tMeth, tMake, tProp, tFld, sFld, tAsg, gName, tYes, List.map, tNever, tPar, cxK, cxw, cxnK, cxnw, List.singleton_append, List.append_nil, List.cons_append, List.nil_append]
    refine ⟨_, rfl, c, G, F, rfl, hc4, h7, fun H5 rm e5 hrm hm => ?_⟩
    have E5 := E4.trans e5
    refine ⟨_, rfl, _, rfl, t, dx, _, rfl, E5 _ _ h1, t, c, G, F, Fs, rfl, ht.ext E5, hc4.ext e5, fun H6 e6 => ⟨_, rfl, ?_⟩⟩
    have hm6 := e6 _ _ hm
    have hh6 := (e5.trans e6) _ _ hh4
    refine tlc_of ?_
    refine ⟨_, rfl, iseq_of (Sq.lst hm6) fun J st ov hst => ?_⟩
    have lml : (txs (madeL G F)).length ≤ sizeLine := by
      rw [List.length_map, List.length_map]; exact Nat.le_trans (made_len hcF h7) (by decide)
    refine lc_fil ov (keepN (tx (KM.held Fs G))) (show 7 < 8 by decide) hst lml (fun v H7 M hv e hM => ?_) fun D7 H7 hD7 e7 hl7 => ?_
    · obtain ⟨y, hy, rfl⟩ := List.mem_map.mp hv
      exact ⟨_, rfl, _, rfl, notIn_seq (.lst (xs := vS (tx (KM.held Fs G))) (e _ _ hh6)) ⟨_, rfl, hM _ Ext.rfl'⟩⟩
    rw [filter_vN] at hl7
    refine ⟨by decide, fun L8 hL8 => ?_⟩
    have e8 := Ext.upd (o := .lst []) hL8
    refine ⟨restOf (tx (madeL G F)) (tx (KM.held Fs G)), [], .lst (.of (e8 _ _ hl7)) (dp_strs _), .lst (.of upd_same) .nil, ?_⟩
    rw [if_neg (by decide)]
    refine ⟨_, _, .bl _, .bl _, ?_⟩
    have hsame : decide (F ∈ Fs) = decide (restOf (tx (madeL G F)) (tx (KM.held Fs G)) = []) := by
      rw [decide_eq_decide, rest_nil]
      exact cut_texts hG h6 hO hcF
    rw [if_pos rfl, decide_eq_true hsame]
    refine ⟨false, rfl, iteF ?_⟩
    have e68 := (e6.trans e7).trans e8
    have E8 := E5.trans e68
    generalize upd H7 L8 (.lst []) = H8 at *
    have hL8' := (e5.trans e68) _ _ hL
    refine ⟨_, rfl, _, rfl, _, rfl, _, rfl, t, dx, _, rfl, E8 _ _ h1, t, c, G, F, Fs, rfl, ht.ext E8, (hc4.ext e5).ext e68, fun H9 e9 => ⟨_, rfl, .inr ⟨_, rfl, ?_⟩⟩⟩
    have hm9 := (e68.trans e9) _ _ hm
    refine ⟨rm, _, _, rfl, rfl, hm9, by split <;> decide, by split <;> decide, ?_, fun pr hpr => ?_⟩
    · rw [List.length_map, List.length_map]
      have := made_len hcF h7
      refine Nat.le_trans (m := 441) ?_ (by decide)
      split
      · show _ * 1 ≤ _; omega
      · show _ * 0 ≤ _; omega
    · have erep : (List.replicate (if decide (F ∈ Fs) = true then (1 : Int) else 0).toNat (txs (madeL G F))).flatten = txs (if F ∈ Fs then madeL G F else []) := by
        by_cases m : F ∈ Fs
        · rw [decide_eq_true m, if_pos rfl, if_pos m]; simp
        · rw [decide_eq_false m, if_neg m]; rfl
      rw [erep]
      have e10 := Ext.upd (o := .lst (txs (if F ∈ Fs then madeL G F else []))) hpr
      have hL10 := (e9.trans e10) _ _ hL8'
      have l1 := mlen j
      have l2 := mlen (j + 1)
      rw [madeAll_succ hF, List.length_append] at l2
      refine ⟨L, pr, _, _, rfl, rfl, hL10, upd_same, ?_, fun L' hL' => ?_⟩
      · rw [List.length_map, List.length_map, List.length_map, List.length_map]
        exact Nat.le_trans l2 (by decide)
      · refine ⟨(((e4.trans e5).trans e68).trans (e9.trans e10)).trans (Ext.upd hL'), L', _, _, rfl, ?_⟩
        rw [upd_same, madeAll_succ hF, txs_append]
  obtain ⟨e4, L, x4, x5, rfl, hL⟩ := w
  have : (allF G).take usc.length = allF G := by rw [← csc.length, List.take_length]
  have E4 := E3.trans e4
  rw [this] at hL
  have ht4 := ht.ext E4
  have hh4 := (e3.trans e4) _ _ hh
  refine K0.s0s_cons (s0_forGc rfl (calG_partings_of T U) hr (by decide) rfl (pa_cons (pv 0) pa_nil) (pg_name (i := 6) sc__law_cuts_right.nd rfl (Or.inr rfl)) (pss_one (ps_if (PW.pt (pw_or (pt_cmpR (op_eqLen hr.units0) (pe_lc (own := [("_law_cut_here", 4)]) rfl sc__law_cuts_right.nd (pi_seq (pe_pr (prp_cuts T) hr (by decide) (pv 0))) (blkOk_by (N := ["_law_tree_here", "_law_grown", "_law_held", "_law_made_here", "_law_cut_here", "_law_mine", "_law_parting", "_law_one"]) (sc := fnScope (top 66)) (own := [("_law_cut_here", 4)]) (by decide +kernel)) (fun _ _ _ _ _ => (pg_name (i := 4) sc__law_cuts_right.nd rfl (Or.inl rfl))) (fun _ _ _ _ _ => (pts_one (pt_val (C8.pe_mt (met_makes T) hr (by decide) (pv 4) (pa_cons (pv 6) pa_nil))))) (fun _ _ _ _ _ => (pv 4))) (pe_lst pa_nil) mk) (pw_or1 (pt_cmpR (opNotIn K) (pe_callTy (cr_str_met (met_strP T) hr (by decide)) (by rfl) (T.nb "str" (by decide)) (by decide +kernel) (pa_cons (pv 6) pa_nil)) (pv 3) mk)))) (pss_one (ps_ret pe_bl)) pss_nil)) ?_)
  refine ⟨_, rfl, _, ⟨t, G, Fs, rfl, ht4, rfl⟩, ?_⟩
  refine ⟨fun rest σ H' => ∃ todo : List Pt, rest = todo.map (itP CP) ∧ (∀ p ∈ todo, p ∈ KM.held Fs G) ∧ Ext H4 H' ∧ ∃ y, σ = [some (.ref t), some (.ref g), some (.ref rh), some (.ref L), x4, x5, y, none], ⟨_, rfl, fun p h => h, Ext.rfl', none, rfl⟩, ?_, ?_⟩
  · rintro σ1 H5 H6 ⟨todo, e, _, e5, y, rfl⟩ e6
    have e6 : Ext H5 H6 := e6
    have E6 := E4.trans (e5.trans e6)
    have hL6 := (e5.trans e6) _ _ hL
    have hh6 := (e5.trans e6) _ _ hh4
    refine K0.s0s_one (K0.s0_ps rfl (ps_ret (pe_cmpR op_eq (pe_callB call_len (by rfl) (T.nb "len" (by decide)) (by decide +kernel) (pa_cons (pv 2) pa_nil)) (pe_callB cr_lenS (by rfl) (T.nb "len" (by decide)) (by decide +kernel) (pa_cons (pe_callTy (cr_setS rfl) (by rfl) (T.nb "set" (by decide)) (by decide +kernel) (pa_cons (pv 3) pa_nil)) pa_nil)) mk)) ?_)
    dsimp only [tNext, tRet, tCB, tCons, tNil, tC, tSeq, tIfS, tTest, tNot, tOr, tAnd, tB, tAndV, tOrV, tNotV, tIf, tDrop, tOp, tChain, rI0, tTup, tLst, tCall, tMeth, tMake, tProp, tFld, sFld, tAsg, gName, tYes, List.map, tNever, tPar, cxK, cxw, cxnK, cxnw, List.singleton_append, List.append_nil, List.cons_append, List.nil_append]
    refine ⟨_, rfl, _, _, rfl, .inl ⟨_, .of hh6, rfl⟩, _, rfl, L, tx (madeAll G Fs (allF G)), rfl, .inl (.of hL6), ?_, fun p7 hp7 => ?_⟩
    · have := mlen (allF G).length
      rw [List.take_length] at this
      rw [List.length_map]
      exact Nat.lt_of_le_of_lt (show _ ≤ 2647 by omega) (by decide)
    refine ⟨p7, _, rfl, upd_same, fun us7 hus hm => ?_⟩
    have hl : us7.length = (txs (KM.held Fs G)).length := by
      rw [List.length_map]
      refine List.Perm.length_eq ((List.perm_ext_iff_of_nodup hus (tx_nodup hG h6)).mpr fun k => ?_)
      rw [hm k]
      constructor
      · intro h
        obtain ⟨p, hp, rfl⟩ := List.mem_map.mp h
        exact List.mem_map.mpr ⟨p, (mem_madeAll hG h6 hO).mp hp, rfl⟩
      · intro h
        obtain ⟨p, hp, rfl⟩ := List.mem_map.mp h
        exact List.mem_map.mpr ⟨p, (mem_madeAll hG h6 hO).mpr hp, rfl⟩
    rw [hl]
    refine ⟨rfl, ?_⟩
    rw [decide_eq_true rfl]
    exact q _ (E6.trans (Ext.upd hp7))
  · rintro it rest σ1 H5 x H6 ⟨todo, e, hin, e5, y, rfl⟩ e6 hit
    have e6 : Ext H5 H6 := e6
    obtain ⟨p, todo', rfl⟩ : ∃ p todo', todo = p :: todo' := by
      cases todo with
      | nil => cases e
      | cons p q => exact ⟨p, q, rfl⟩
    injection e with e e'
    subst e e'
    have hp := hin p List.mem_cons_self
    obtain ⟨om, mm, F, hF, hk⟩ := (KM.mem_held lo_sl hG.a h6).mp hp
    obtain ⟨a, rfl, ha⟩ := hit
    obtain ⟨dxa, _, _, _, _, _, ia, _⟩ := id ha
    have E6 := E4.trans (e5.trans e6)
    have ht6 := ht.ext E6
    have cs6 := h4.ext E6
    dsimp only [tNext, tRet, tCB, tCons, tNil, tC, tSeq, tIfS, tTest, tNot, tOr, tAnd, tB, tAndV, tOrV, tNotV, tIf, tDrop, tOp, tChain, rI0, tTup, tLst, tCall, tMeth, tMake, tProp, tFld, sFld, tAsg, gName, tYes, List.map, tNever, tPar, cxK, cxw, cxnK, cxnw, List.singleton_append, List.append_nil, List.cons_append, List.nil_append]
    refine tlc_of ?_
    refine ⟨_, rfl, t, dx, _, rfl, E6 _ _ h1, t, G, Fs, rfl, ht6, fun to us2 hto hus2 => ?_⟩
    refine iseq_of (Sq.tup hto) fun J st ov hst => ?_
    refine lc_fil ov (keepX CC H6 G fun F => KM.makes F p) (show 4 < 8 by decide) hst (tree40 (CT := CT) hus2 h8) (fun v H7 M hv e hM => ?_) fun D7 H7 hD7 e7 hl7 => ?_
    · obtain ⟨F', hF', b, rfl, hb⟩ := All2.mem_l hus2 hv
      obtain ⟨dxb, _, _, _, ib, _⟩ := id (hb.ext e)
      rw [keepX_of hb (decide_eq_true_iff (p := KM.makes F' p))] at hM
      exact ⟨_, rfl, b, dxb, _, rfl, ib, by rfl, _, rfl, b, a, G, F', p, rfl, hb.ext e, ha.ext e, mm, fun H8 e8 => ⟨_, rfl, hM _ e8⟩⟩
    have hcs7 := keepX_all (CC := CC) (H := H6) (R := fun F => KM.makes F p) (fun F => decide (KM.makes F p)) (fun F _ => decide_eq_true_iff) hus2
    have hne : 0 < (us2.filter (keepX CC H6 G fun F => KM.makes F p)).length := by
      rw [← hcs7.length]
      exact List.length_pos_iff.mpr fun z => absurd (List.mem_filter.mpr ⟨hF, decide_eq_true hk⟩ : F ∈ Fs.filter fun F => decide (KM.makes F p)) (by rw [z]; simp)
    refine ⟨by decide, fun L8 hL8 => ?_⟩
    have e8 := Ext.upd (o := .lst []) hL8
    refine ⟨D7, L8, _, [], rfl, rfl, .of (e8 _ _ hl7), .of upd_same, by rw [List.length_nil]; omega, false, rfl, iteF ?_⟩
    have e78 := e7.trans e8
    refine ⟨_, rfl, a, dxa, _, rfl, e78 _ _ ia, a, p, rfl, ha.ext e78, _, rfl, _, rfl, notIn_seq (.lst (xs := txs (madeAll G Fs (allF G))) (((e5.trans e6).trans e78) _ _ hL)) ?_⟩
    rw [decide_eq_true (List.mem_map.mpr ⟨p, (mem_madeAll hG h6 hO).mpr hp, rfl⟩ : ptText p ∈ (madeAll G Fs (allF G)).map ptText)]
    exact ⟨false, rfl, iteF ⟨K0.Ext.stay e78, todo', rfl, fun p hp => hin p (List.mem_cons_of_mem _ hp), (e5.trans e6).trans e78, _, rfl⟩⟩
end
end G
end

section
set_option Elab.async false
set_option linter.all false
set_option maxRecDepth 100000
set_option maxHeartbeats 1000000
/-! two trees -/
namespace G
open PySem PySem.Spec PyProof.Rows L2
open K0 (GF SpI Item GSt GSts GStm GD gX WD Stay M0 F0 Sp0 E0 T0 S0 S0s LcG)
open C8 (fnScope fnBody fnArgs Cal Met Mak)
open SkE (call_str_str)
theorem op_eqDtK {X : Cx} {α : Type} [DecidableEq α] [PySem.W.Datum α] (K : PySem.W.Frag) (hu : X.A.units + PySem.W.Datum.depth α < cLine) (h : X.K = K := by rfl) : OpR X (compareOp .Eq) (rEqDt α K false) := by subst h; exact op_eqDt hu
theorem op_eqTree {X : Cx} {CC CT : Addr} {j k : Nat} (c : Met X.prog X.w X.K X.mg X.base k CT "__eq__" (spB (REqT CC CT)) []) (hr : Room j X.A) (hk : k ≤ j) : OpR X (compareOp .Eq) (rRcB (DOwn X.K CT (REqT CC CT))) := by
  obtain ⟨f, fd, ps, ds, hc, hm, F, b, d⟩ := c.ex
  cases d
  exact op_eqB (rcB_own (E := XK0) F hm.at_ hm.fn b passN) (hr.mono hk)
theorem dp_bools {K : PySem.W.Frag} {H : Hp} : ∀ xs : List Bool, DpAll K H (xs.map V.bl) (xs.map PySem.W.Datum.toD)
  | [] => .nil
  | x :: xs => .cons (.bl x) (dp_bools xs)
theorem eq_sub2 {Fa Fb : List (List Str)} (ha : AscK Fa) (hb : AscK Fb) : decide (Fa = Fb) = (sub2 Fa Fb && sub2 Fb Fa) := by
  rw [Bool.eq_iff_iff, decide_eq_true_iff, Bool.and_eq_true]
  unfold sub2
  rw [List.all_eq_true, List.all_eq_true]
  constructor
  · rintro rfl
    exact ⟨fun F h => decide_eq_true h, fun F h => decide_eq_true h⟩
  · rintro ⟨h1, h2⟩
    exact asck_uniq ha hb fun F => ⟨fun h => of_decide_eq_true (h1 F h), fun h => of_decide_eq_true (h2 F h)⟩
section
variable {P : Program} {w : World} {K : PySem.W.Frag} {mg : Str → Option Value} {base : Heap} {CP CC CT : Addr}
def spPairRight (CC CT : Addr) : Sp0 := fun vs H Q => ∃ a b G Fa Fb, vs = [.ref a, .ref b] ∧ TreeAt CC CT H a G Fa ∧ TreeAt CC CT H b G Fb ∧ G.length ≤ 7 ∧ ∀ H', Ext H H' → Q (.bl true) H'
theorem sc__law_pair_right : FnScope ["_law_left", "_law_right", "_law_mine", "_law_theirs", "_law_is_in", "_law_has_all", "_law_both", "_law_due", "_law_one", "_law_cut_here"] ["_law_left", "_law_right"] (fnScope (top 67)) := ⟨rfl, rfl, rfl, by decide +kernel, rfl, by decide +kernel, by decide +kernel⟩
theorem cal0_pair_right (T : TX K mg CP CC CT) (U : TY K mg) : Cal0 P w K mg base 18 "_law_pair_right" (spPairRight CC CT) := by
  refine cal0_of U.d_pair_right sc__law_pair_right (fun _ _ _ _ _ _ us hl => match us, hl with | [_, _], _ => rfl) (fun vs H Q h => by obtain ⟨_, _, _, _, _, rfl, _⟩ := h; rfl) fun f cdv A outer s H vs Q hr h => ?_
  obtain ⟨a, b, G, Fa, Fb, rfl, ha, hb, h7, q⟩ := h
  obtain ⟨dx, n, o, us, h1, h2, h3, h4, h5, h6, hG, h8⟩ := id ha
  obtain ⟨dy, n', o', us', k1, k2, k3, k4, k5, k6, _, k8⟩ := id hb
  refine K0.s0s_cons (K0.s0_asg rfl (pg_tup (by rfl) (pgs_cons (pg_name (i := 2) sc__law_pair_right.nd rfl (Or.inr rfl)) (pgs_cons (pg_name (i := 3) sc__law_pair_right.nd rfl (Or.inr rfl)) pgs_nil))) (K0.e0_tup2 ?_))
  refine e0_callc rfl (cal0_texts T U) hr (by decide) rfl (pa_cons (pv 0) pa_nil) ?_
  refine ⟨_, rfl, a, G, Fa, rfl, ha, by omega, fun H1 ra e1 hra hma => ?_⟩
  refine e0_callc rfl (cal0_texts T U) hr (by decide) rfl (pa_cons (pv 1) pa_nil) ?_
  refine ⟨_, rfl, b, G, Fb, rfl, hb.ext e1, by omega, fun H2 rb e2 hrb hmb pt hpt => ?_⟩
  have e3 := Ext.upd (o := .tup [.ref ra, .ref rb]) hpt
  refine ⟨pt, _, rfl, .of upd_same, rfl, _, _, rfl, _, _, rfl, rfl, ?_⟩
  have hma := (e2.trans e3) _ _ hma
  have hmb := e3 _ _ hmb
  have E3 := (e1.trans e2).trans e3
  generalize upd H2 pt (.tup [.ref ra, .ref rb]) = H3 at *
  have hOa : ∀ F ∈ Fa, CutOk G F := h4.ok
  have hOb : ∀ F ∈ Fb, CutOk G F := k4.ok
  have lh : ∀ Fs : List (List Str), (txs (KM.held Fs G)).length ≤ sizeLine := fun Fs => by rw [List.length_map, List.length_map]; exact held_len Fs G (by omega)
  refine K0.s0s_cons (K0.s0_ps rfl (ps_set (i := 4) sc__law_pair_right.nd rfl (Or.inl rfl) (pe_cmpR (op_eqDt (α := List Str) (ltd hr (by decide))) (pe_lc (own := [("_law_one", 8)]) rfl sc__law_pair_right.nd (pi_seq (pv 2)) (blkOk_by (N := ["_law_left", "_law_right", "_law_mine", "_law_theirs", "_law_is_in", "_law_has_all", "_law_both", "_law_due", "_law_one", "_law_cut_here"]) (sc := fnScope (top 67)) (own := [("_law_one", 8)]) (by decide +kernel)) (fun _ _ _ _ _ => (pg_name (i := 8) sc__law_pair_right.nd rfl (Or.inl rfl))) (fun _ _ _ _ _ => (pts_one (pt_cmpR (opNotIn K) (pv 8) (pv 3) mk))) (fun _ _ _ _ _ => (pv 8))) (pe_lst pa_nil) mk)) ?_)
  dsimp only [tNext, tRet, tCB, tCons, tNil, tC, tSeq, tIfS, tTest, tNot, tOr, tAnd, tB, tAndV, tOrV, tNotV, tIf, tDrop, tOp, tChain, rI0, tTup, tLst, tCall, tMeth, tMake, tProp, tFld, sFld, tAsg, gName, tYes, List.map, tNever, tPar, cxK, cxw, cxnK, cxnw, List.singleton_append, List.append_nil, List.cons_append, List.nil_append]
  refine tlc_of ?_
  refine ⟨_, rfl, iseq_of (Sq.lst hma) fun J st ov hst => ?_⟩
  refine lc_fil ov (keepN (tx (KM.held Fb G))) (show 8 < 10 by decide) hst (lh Fa) (fun v H4 M hv e hM => ?_) fun D4 H4 hD4 e4 hl4 => ?_
  · obtain ⟨y, hy, rfl⟩ := List.mem_map.mp hv
    exact ⟨_, rfl, _, rfl, notIn_seq (.lst (xs := txs (KM.held Fb G)) (e _ _ hmb)) ⟨_, rfl, hM _ Ext.rfl'⟩⟩
  rw [filter_vN] at hl4
  refine ⟨by decide, fun L4 hL4 => ?_⟩
  have e4' := Ext.upd (o := .lst []) hL4
  refine ⟨restOf (tx (KM.held Fa G)) (tx (KM.held Fb G)), [], .lst (.of (e4' _ _ hl4)) (dp_strs _), .lst (.of upd_same) .nil, ?_⟩
  rw [if_neg (by decide)]
  have hma := (e4.trans e4') _ _ hma
  have hmb := (e4.trans e4') _ _ hmb
  have E4 := E3.trans (e4.trans e4')
  generalize upd H4 L4 (.lst []) = H5 at *
  clear hl4 hL4 e4 e4' hD4
  have hin : decide (restOf (tx (KM.held Fa G)) (tx (KM.held Fb G)) = []) = sub2 Fa Fb := by
    rw [Bool.eq_iff_iff, decide_eq_true_iff, rest_nil, ← le_texts hG h6 k6 hOa hOb]
    unfold sub2
    rw [List.all_eq_true]
    simp
  rw [hin]
  refine K0.s0s_cons (K0.s0_ps rfl (ps_set (i := 5) sc__law_pair_right.nd rfl (Or.inl rfl) (pe_cmpR (op_eqDt (α := List Str) (ltd hr (by decide))) (pe_lc (own := [("_law_one", 8)]) rfl sc__law_pair_right.nd (pi_seq (pv 3)) (blkOk_by (N := ["_law_left", "_law_right", "_law_mine", "_law_theirs", "_law_is_in", "_law_has_all", "_law_both", "_law_due", "_law_one", "_law_cut_here"]) (sc := fnScope (top 67)) (own := [("_law_one", 8)]) (by decide +kernel)) (fun _ _ _ _ _ => (pg_name (i := 8) sc__law_pair_right.nd rfl (Or.inl rfl))) (fun _ _ _ _ _ => (pts_one (pt_cmpR (opNotIn K) (pv 8) (pv 2) mk))) (fun _ _ _ _ _ => (pv 8))) (pe_lst pa_nil) mk)) ?_)
  dsimp only [tNext, tRet, tCB, tCons, tNil, tC, tSeq, tIfS, tTest, tNot, tOr, tAnd, tB, tAndV, tOrV, tNotV, tIf, tDrop, tOp, tChain, rI0, tTup, tLst, tCall, tMeth, tMake, tProp, tFld, sFld, tAsg, gName, tYes, List.map, tNever, tPar, cxK, cxw, cxnK, cxnw, List.singleton_append, List.append_nil, List.cons_append, List.nil_append]
  refine tlc_of ?_
  refine ⟨_, rfl, iseq_of (Sq.lst hmb) fun J st ov hst => ?_⟩
  refine lc_fil ov (keepN (tx (KM.held Fa G))) (show 8 < 10 by decide) hst (lh Fb) (fun v H6 M hv e hM => ?_) fun D6 H6 hD6 e6 hl6 => ?_
  · obtain ⟨y, hy, rfl⟩ := List.mem_map.mp hv
    exact ⟨_, rfl, _, rfl, notIn_seq (.lst (xs := txs (KM.held Fa G)) (e _ _ hma)) ⟨_, rfl, hM _ Ext.rfl'⟩⟩
  rw [filter_vN] at hl6
  refine ⟨by decide, fun L6 hL6 => ?_⟩
  have e6' := Ext.upd (o := .lst []) hL6
  refine ⟨restOf (tx (KM.held Fb G)) (tx (KM.held Fa G)), [], .lst (.of (e6' _ _ hl6)) (dp_strs _), .lst (.of upd_same) .nil, ?_⟩
  rw [if_neg (by decide)]
  have hma := (e6.trans e6') _ _ hma
  have hmb := (e6.trans e6') _ _ hmb
  have E6 := E4.trans (e6.trans e6')
  generalize upd H6 L6 (.lst []) = H7 at *
  clear hl6 hL6 e6 e6' hD6
  have hin2 : decide (restOf (tx (KM.held Fb G)) (tx (KM.held Fa G)) = []) = sub2 Fb Fa := by
    rw [Bool.eq_iff_iff, decide_eq_true_iff, rest_nil, ← le_texts hG k6 h6 hOb hOa]
    unfold sub2
    rw [List.all_eq_true]
    simp
  rw [hin2]
  refine K0.s0s_cons (K0.s0_ps rfl (ps_if (pt_cmpR (op_neDt (α := List Bool) (ltd hr (by decide))) (pe_lst (pa_cons (pe_cmpR (op_met (op := .LtE) (met_leT T) hr (by decide)) (pv 0) (pv 1) mk) (pa_cons (pe_cmpR (op_met (op := .GtE) (met_geT T) hr (by decide)) (pv 0) (pv 1) mk) (pa_cons (pe_cmpR (op_eqTree (met_eqT T) hr (by decide)) (pv 0) (pv 1) mk) pa_nil)))) (pe_lst (pa_cons (pv 4) (pa_cons (pv 5) (pa_cons (pe_and (pv 4) (pe_one (pv 5))) pa_nil)))) mk) (pss_one (ps_ret pe_bl)) pss_nil) ?_)
  dsimp only [tNext, tRet, tCB, tCons, tNil, tC, tSeq, tIfS, tTest, tNot, tOr, tAnd, tB, tAndV, tOrV, tNotV, tIf, tDrop, tOp, tChain, rI0, tTup, tLst, tCall, tMeth, tMake, tProp, tFld, sFld, tAsg, gName, tYes, List.map, tNever, tPar, cxK, cxw, cxnK, cxnw, List.singleton_append, List.append_nil, List.cons_append, List.nil_append]
  refine ⟨_, rfl, _, rfl, a, dx, _, b, CT, dy, _, rfl, rfl, E6 _ _ h1, E6 _ _ k1, T.fT, a, b, G, Fa, Fb, rfl, ha.ext E6, hb.ext E6, fun H8 e8 => ?_⟩
  have E8 := E6.trans e8
  refine ⟨_, rfl, _, rfl, a, dx, _, b, CT, dy, _, rfl, rfl, E8 _ _ h1, E8 _ _ k1, T.fT, a, b, G, Fa, Fb, rfl, ha.ext E8, hb.ext E8, fun H9 e9 => ?_⟩
  have E9 := E8.trans e9
  refine ⟨_, rfl, _, rfl, decide (Fa = Fb), ⟨a, dx, _, rfl, E9 _ _ h1, ⟨a, b, G, Fa, Fb, rfl, rfl, ha.ext E9, hb.ext E9, rfl⟩, .inl ⟨b, CT, dy, _, rfl, E9 _ _ k1, T.fT⟩⟩, by show 3 ≤ sizeLine; decide, fun L9 hL9 => ?_⟩
  have e10 := Ext.upd (o := .lst [.bl (if false = true then sub2 Fb Fa else sub2 Fa Fb), .bl (if true = true then sub2 Fb Fa else sub2 Fa Fb), .bl (decide (Fa = Fb))]) hL9
  have hl9 : (upd H9 L9 (.lst [.bl (if false = true then sub2 Fb Fa else sub2 Fa Fb), .bl (if true = true then sub2 Fb Fa else sub2 Fa Fb), .bl (decide (Fa = Fb))])) L9 = some (.lst ([sub2 Fa Fb, sub2 Fb Fa, sub2 Fa Fb && sub2 Fb Fa].map V.bl)) := by
    rw [upd_same, eq_sub2 h5 k5]; rfl
  generalize upd H9 L9 (.lst [.bl (if false = true then sub2 Fb Fa else sub2 Fa Fb), .bl (if true = true then sub2 Fb Fa else sub2 Fa Fb), .bl (decide (Fa = Fb))]) = H10 at *
  have E10 := E9.trans e10
  have hma10 := (e8.trans (e9.trans e10)) _ _ hma
  have hmb10 := (e8.trans (e9.trans e10)) _ _ hmb
  have rest : ∀ H11, Ext H10 H11 → S0s (cxOf K0.CX0 P w K mg base ["_law_left", "_law_right", "_law_mine", "_law_theirs", "_law_is_in", "_law_has_all", "_law_both", "_law_due", "_law_one", "_law_cut_here"] "_law_pair_right" (fnScope (top 67)) f cdv A outer s H fun _ _ _ => False).nox ((fnBody (top 67)).drop 4) [some (.ref a), some (.ref b), some (.ref ra), some (.ref rb), some (.bl (sub2 Fa Fb)), some (.bl (sub2 Fb Fa)), none, none, none, none] H11 { nx := fun _ H' => Q .non H', rt := Q } := by
    intro H11 e11
    have E11 := E10.trans e11
    have hma := e11 _ _ hma10
    have hmb := e11 _ _ hmb10
    refine K0.s0s_cons (K0.s0_ps rfl (ps_set (i := 6) sc__law_pair_right.nd rfl (Or.inr rfl) (pe_lc (own := [("_law_one", 8)]) rfl sc__law_pair_right.nd (pi_seq (pv 2)) (blkOk_by (N := ["_law_left", "_law_right", "_law_mine", "_law_theirs", "_law_is_in", "_law_has_all", "_law_both", "_law_due", "_law_one", "_law_cut_here"]) (sc := fnScope (top 67)) (own := [("_law_one", 8)]) (by decide +kernel)) (fun _ _ _ _ _ => (pg_name (i := 8) sc__law_pair_right.nd rfl (Or.inl rfl))) (fun _ _ _ _ _ => (pts_one (pt_cmpR (opIn K) (pv 8) (pv 3) mk))) (fun _ _ _ _ _ => (pv 8)))) ?_)
    dsimp only [tNext, tRet, tCB, tCons, tNil, tC, tSeq, tIfS, tTest, tNot, tOr, tAnd, tB, tAndV, tOrV, tNotV, tIf, tDrop, tOp, tChain, rI0, tTup, tLst, tCall, tMeth, tMake, tProp, tFld, sFld, tAsg, gName, tYes, List.map, tNever, tPar, cxK, cxw, cxnK, cxnw, List.singleton_append, List.append_nil, List.cons_append, List.nil_append]
    refine tlc_of ?_
    refine ⟨_, rfl, iseq_of (Sq.lst hma) fun J st ov hst => ?_⟩
    refine lc_fil ov (keepS (tx (KM.held Fb G))) (show 8 < 10 by decide) hst (lh Fa) (fun v H12 M hv e hM => ?_) fun D12 H12 hD12 e12 hl12 => ?_
    · obtain ⟨y, hy, rfl⟩ := List.mem_map.mp hv
      exact ⟨_, rfl, _, rfl, in_seq (.lst (xs := txs (KM.held Fb G)) (e _ _ hmb)) ⟨_, rfl, hM _ Ext.rfl'⟩⟩
    rw [filter_vS] at hl12
    have E12 := E11.trans e12
    generalize hboth : (tx (KM.held Fa G)).filter (fun x => decide (x ∈ tx (KM.held Fb G))) = both at hl12
    refine K0.s0s_cons (K0.s0_ps rfl (ps_setLc (i := 7) (own := [("_law_cut_here", 9)]) rfl sc__law_pair_right.nd rfl rfl (sw_true rfl rfl rfl (by decide +kernel)) (pi_seq (pe_pr (prp_cuts T) hr (by decide) (pv 0))) (blkOk_by (N := ["_law_left", "_law_right", "_law_mine", "_law_theirs", "_law_is_in", "_law_has_all", "_law_both", "_law_due", "_law_one", "_law_cut_here"]) (sc := fnScope (top 67)) (own := [("_law_cut_here", 9)]) (by decide +kernel)) (fun _ _ _ _ _ => (pg_name (i := 9) sc__law_pair_right.nd rfl (Or.inl rfl))) (fun _ _ _ _ _ => (pts_one (pt_cmpR (op_eqDtK (α := List Str) K (ltd hr (by decide))) (pe_lc (own := [("_law_one", 8)]) rfl sc__law_pair_right.nd (pi_seqK K (C8.pe_c (cal__law_made T) hr (by decide) rfl (pa_cons (pv 9) pa_nil))) (blkOk_by (N := ["_law_left", "_law_right", "_law_mine", "_law_theirs", "_law_is_in", "_law_has_all", "_law_both", "_law_due", "_law_one", "_law_cut_here"]) (sc := ⟨.function, [(".0", .local), ("_law_cut_here", .local), ("_law_made", .globalImplicit), ("_law_both", .cell)], false, false, []⟩) (own := [("_law_one", 8)]) (by decide +kernel)) (fun _ _ _ _ _ => (pg_name (i := 8) sc__law_pair_right.nd rfl (Or.inl rfl))) (fun _ _ _ _ _ => (pts_one (pt_cmpR (opNotIn K) (pv 8) (pv 6) mk))) (fun _ _ _ _ _ => (pv 8))) (pe_lst pa_nil) mk))) (fun _ _ _ _ _ => (pv 9))) ?_)
    dsimp only [tNext, tRet, tCB, tCons, tNil, tC, tSeq, tIfS, tTest, tNot, tOr, tAnd, tB, tAndV, tOrV, tNotV, tIf, tDrop, tOp, tChain, rI0, tTup, tLst, tCall, tMeth, tMake, tProp, tFld, sFld, tAsg, gName, tYes, List.map, tNever, tPar, cxK, cxw, cxnK, cxnw, List.singleton_append, List.append_nil, List.cons_append, List.nil_append]
    refine tlc_of ?_
    have ha12 := ha.ext E12
    refine ⟨_, rfl, a, dx, _, rfl, E12 _ _ h1, a, G, Fa, rfl, ha12, fun to us2 hto hus2 => ?_⟩
    refine iseq_of (Sq.tup hto) fun J st ov hst => ?_
    let R : List Str → Prop := fun F => ∀ x ∈ tx (madeL G F), x ∈ both
    refine lc_fil ov (keepX CC H12 G R) (show 9 < 10 by decide) hst (tree40 (CT := CT) hus2 h8) (fun v H13 M hv e hM => ?_) fun D14 H14 hD14 e14 hl14 => ?_
    · obtain ⟨F, hF, c, rfl, hc⟩ := All2.mem_l hus2 hv
      have okF := hOa F hF
      dsimp only [tNext, tRet, tCB, tCons, tNil, tC, tSeq, tIfS, tTest, tNot, tOr, tAnd, tB, tAndV, tOrV, tNotV, tIf, tDrop, tOp, tChain, rI0, tTup, tLst, tCall, tMeth, tMake, tProp, tFld, sFld, tAsg, gName, tYes, List.map, tNever, tPar, cxK, cxw, cxnK, cxnw, List.singleton_append, List.append_nil, List.cons_append, List.nil_append]
      refine tlc_of ?_
      refine ⟨_, rfl, c, G, F, rfl, hc.ext e, h7, fun H15 rm e15 hrm hm => ?_⟩
      refine iseq_of (Sq.lst hm) fun J st ov hst => ?_
      refine lc_fil ov (keepN both) (show 8 < 10 by decide) hst (by rw [List.length_map, List.length_map]; exact Nat.le_trans (made_len okF h7) (by decide)) (fun v H16 M' hv e' hM' => ?_) fun D16 H16 hD16 e16 hl16 => ?_
      · obtain ⟨y, hy, rfl⟩ := List.mem_map.mp hv
        exact ⟨_, rfl, _, rfl, notIn_seq (.lst (xs := vS both) (((e.trans e15).trans e') _ _ hl12)) ⟨_, rfl, hM' _ Ext.rfl'⟩⟩
      rw [filter_vN] at hl16
      refine ⟨by decide, fun L17 hL17 => ?_⟩
      have e17 := Ext.upd (o := .lst []) hL17
      refine ⟨restOf (tx (madeL G F)) both, [], .lst (.of (e17 _ _ hl16)) (dp_strs _), .lst (.of upd_same) .nil, ?_⟩
      rw [if_neg (by decide)]
      refine ⟨_, rfl, ?_⟩
      have hk : keepX CC H12 G R (.ref c) = decide (restOf (tx (madeL G F)) both = []) := keepX_of hc (by rw [decide_eq_true_iff, rest_nil])
      rw [← hk]
      exact hM _ ((e15.trans e16).trans e17)
    have hcs := keepX_all (CC := CC) (H := H12) (R := R) (fun F => decide (F ∈ Fb)) (fun F hF => by
      rw [decide_eq_true_iff, cut_texts hG k6 hOb (hOa F hF)]
      have hmine := (cut_texts hG h6 hOa (hOa F hF)).mp hF
      constructor
      · intro h x hx
        rw [← hboth]
        exact List.mem_filter.mpr ⟨hmine x hx, decide_eq_true (h x hx)⟩
      · intro h x hx
        have := h x hx
        rw [← hboth] at this
        exact of_decide_eq_true (List.mem_filter.mp this).2) hus2
    refine K0.s0s_one (K0.s0_ps rfl (ps_ret (pe_cmpR (op_eq_cutL (met_eqC T) hr (by decide)) (pe_callTy call_list_of (by rfl) (T.nb "list" (by decide)) (by decide +kernel) (pa_cons (pe_pr (prp_cuts T) hr (by decide) (pe_op (op_and_met (met_andT T) T.sfT hr (by decide)) (pv 0) (pv 1))) pa_nil)) (pv 7) mk)) ?_)
    dsimp only [tNext, tRet, tCB, tCons, tNil, tC, tSeq, tIfS, tTest, tNot, tOr, tAnd, tB, tAndV, tOrV, tNotV, tIf, tDrop, tOp, tChain, rI0, tTup, tLst, tCall, tMeth, tMake, tProp, tFld, sFld, tAsg, gName, tYes, List.map, tNever, tPar, cxK, cxw, cxnK, cxnw, List.singleton_append, List.append_nil, List.cons_append, List.nil_append]
    have E14 := E12.trans e14
    refine ⟨_, rfl, _, rfl, a, dx, _, b, dy, _, rfl, rfl, E14 _ _ h1, E14 _ _ k1, a, b, G, Fa, Fb, rfl, ha.ext E14, hb.ext E14, fun r H18 Us e18 fr htr hU => ?_⟩
    obtain ⟨dz, _, _, _, i1, _, _, _, i5, _⟩ := id htr
    refine ⟨r, dz, _, rfl, i1, r, G, Us, rfl, htr, fun tc us3 htc hus3 => ?_⟩
    refine ⟨tc, us3, rfl, .inr (.of htc), fun L19 hL19 => ?_⟩
    have e19 := Ext.upd (o := .lst us3) hL19
    have hUs : Us = Fa.filter fun F => decide (F ∈ Fb) := asck_uniq i5 (List.Pairwise.filter _ h5) fun F => by rw [hU F, List.mem_filter, decide_eq_true_iff]
    rw [hUs] at hus3
    refine ⟨_, rfl, cuts_eq (CC := CC) upd_same (e19 _ _ (e18 _ _ hl14)) (hus3.ext e19) (((hcs.ext e14).ext e18).ext e19), fun H20 e20 => ?_⟩
    exact q _ ((E14.trans e18).trans (e19.trans e20))
  refine ⟨_, rfl, _, rfl, _, rfl, sub2 Fa Fb, rfl, ?_⟩
  cases hx : sub2 Fa Fb with
  | true =>
    rw [hx] at hl9 rest
    refine iteT ⟨_, rfl, by show 3 ≤ sizeLine; decide, fun L11 hL11 => ?_⟩
    refine ⟨[true, sub2 Fb Fa, true && sub2 Fb Fa], [true, sub2 Fb Fa, true && sub2 Fb Fa], .lst (.of ((Ext.upd hL11) _ _ hl9)) (dp_bools _), .lst (.of (by rw [upd_same]; rfl)) (dp_bools _), ?_⟩
    rw [if_pos rfl, decide_eq_true rfl]
    exact ⟨false, rfl, iteF (rest _ (Ext.upd hL11))⟩
  | false =>
    rw [hx] at hl9 rest
    refine iteF ⟨by show 3 ≤ sizeLine; decide, fun L11 hL11 => ?_⟩
    refine ⟨[false, sub2 Fb Fa, false && sub2 Fb Fa], [false, sub2 Fb Fa, false && sub2 Fb Fa], .lst (.of ((Ext.upd hL11) _ _ hl9)) (dp_bools _), .lst (.of (by rw [upd_same]; rfl)) (dp_bools _), ?_⟩
    rw [if_pos rfl, decide_eq_true rfl]
    exact ⟨false, rfl, iteF (rest _ (Ext.upd hL11))⟩
end
end G
end

section
set_option Elab.async false
set_option linter.all false
set_option maxRecDepth 100000
set_option maxHeartbeats 1000000
/-! some of the hosts -/
namespace G
open PySem PySem.Spec PyProof.Rows L2
open K0 (GF SpI Item GSt GSts GStm GD gX WD Stay M0 F0 Sp0 E0 T0 S0 S0s LcG)
open C8 (fnScope fnBody fnArgs Cal Met Mak)
open SkE (call_str_str)
theorem stay_of {H H' : Hp} {p : Addr} {l : List V} (h : H p = some (.lst l)) (e : ExtB p H H') : Stay H H' := fun a o ha hn => e a o (fun z => by rw [z, h] at ha; injection ha with ha; exact hn _ ha.symm) ha
theorem PenAt.lst {H : Hp} {p c : Addr} {N : Nat} (h : PenAt H p c N) : ∃ l, H p = some (.lst l) := by obtain ⟨ns, go, gr, h1, _⟩ := h; exact ⟨_, h1⟩
theorem PenAt.stay {H H' : Hp} {p c : Addr} {N : Nat} (h : PenAt H p c N) (e : ExtB p H H') : Stay H H' := by obtain ⟨l, h⟩ := h.lst; exact stay_of h e
theorem TupS.stay {H H' : Hp} {g : Addr} {G : List Str} (h : TupS H g G) (e : Stay H H') : TupS H' g G := e _ _ h fun _ z => by cases z
section
variable {P : Program} {w : World} {K : PySem.W.Frag} {mg : Str → Option Value} {base : Heap} {CP CC CT : Addr}
def spSomeRight (CC CT : Addr) : Sp0 := fun vs H Q => ∃ p c t g G Fs N, vs = [.ref p, .ref t, .ref g] ∧ PenAt H p c N ∧ N ≤ 90000 ∧ TreeAt CC CT H t G Fs ∧ TupS H g G ∧ G.length ≤ 13 ∧ ∀ H', ExtB p H H' → PenAt H' p c (N + 13) → Q (.bl true) H'
theorem sc__law_some_right : FnScope ["_law_pen_here", "_law_tree_here", "_law_grown", "_law_some", "_law_due", "_law_name", "_law_parting"] ["_law_pen_here", "_law_tree_here", "_law_grown"] (fnScope (top 68)) := ⟨rfl, rfl, rfl, by decide +kernel, rfl, by decide +kernel, by decide +kernel⟩
theorem cal0_some_right (T : TX K mg CP CC CT) (U : TY K mg) : Cal0 P w K mg base 17 "_law_some_right" (spSomeRight CC CT) := by
  refine cal0_of U.d_some_right sc__law_some_right (fun _ _ _ _ _ _ us hl => match us, hl with | [_, _, _], _ => rfl) (fun vs H Q h => by obtain ⟨_, _, _, _, _, _, _, rfl, _⟩ := h; rfl) fun f cdv A outer s H vs Q hr h => ?_
  obtain ⟨p, c, t, g, G, Fs, N, rfl, hp, hN, ht, hg, h13, q⟩ := h
  have gp : g ≠ p := hp.ne hg fun _ _ _ z => by cases z
  refine K0.s0s_cons (K0.s0_ps rfl (ps_set (i := 3) sc__law_some_right.nd rfl (Or.inr rfl) (pe_lc (own := [("_law_name", 5)]) rfl sc__law_some_right.nd (pi_seq (pv 2)) (blkOk_by (N := ["_law_pen_here", "_law_tree_here", "_law_grown", "_law_some", "_law_due", "_law_name", "_law_parting"]) (sc := fnScope (top 68)) (own := [("_law_name", 5)]) (by decide +kernel)) (fun _ _ _ _ _ => (pg_name (i := 5) sc__law_some_right.nd rfl (Or.inl rfl))) (fun _ _ _ _ _ => (pts_one (pt_cmpR op_gt (C8.pe_c (cal__law_draw T) hr (by decide) rfl (pa_cons (pv 0) (pa_cons pe_int pa_nil))) pe_int mk))) (fun _ _ _ _ _ => (pv 5)))) ?_)
  dsimp only [tNext, tRet, tCB, tCons, tNil, tC, tSeq, tIfS, tTest, tNot, tOr, tAnd, tB, tAndV, tOrV, tNotV, tIf, tDrop, tOp, tChain, rI0, tTup, tLst, tCall, tMeth, tMake, tProp, tFld, sFld, tAsg, gName, tYes, List.map, tNever, tPar, cxK, cxw, cxnK, cxnw, List.singleton_append, List.append_nil, List.cons_append, List.nil_append]
  refine tlc_of ?_
  have el : (vS G).length = G.length := List.length_map ..
  refine ⟨_, rfl, g, vS G, rfl, .inr ⟨hg.t, ?_⟩⟩
  refine lc_inv (over_tup (K := K) (a := g) (xs := vS G)) (fun D j acc H' => D ≠ p ∧ H D = none ∧ ExtB p H H' ∧ PenAt H' p c (N + j) ∧ H' D = some (.lst acc) ∧ acc.length ≤ j ∧ ∃ S, acc = vS S ∧ S.Sublist (G.take j))
    (fun D hD => ?_) (fun D j acc H' h => ?_) (vS40 (by omega)) (fun D j acc H' h => ⟨h.2.2.2.2.1, h.2.2.2.2.2.1⟩) (fun D j acc x H1 M N' hI hxj hM hN' => ?_) fun D acc H1 hI => ?_
  · have dp : D ≠ p := fun e => by obtain ⟨l, h⟩ := hp.lst; rw [e, h] at hD; cases hD
    exact ⟨dp, hD, fun a o _ h => (Ext.upd hD) _ _ h, hp.ext (Ext.upd hD), upd_same, Nat.le_refl _, [], rfl, by simp⟩
  · exact TupS.t (h.2.2.1 _ _ gp hg)
  · obtain ⟨dp, hD0, eb, pn, hacc, la, S, rfl, hS⟩ := hI
    have hj : j < G.length := by
      rcases Nat.lt_or_ge j G.length with h | h
      · exact h
      · rw [List.getElem?_eq_none (by rw [el]; exact h)] at hxj; cases hxj
    obtain ⟨z, hz, rfl⟩ : ∃ z, G[j]? = some z ∧ x = .str z := by
      rw [List.getElem?_map] at hxj
      cases e : G[j]? with
      | none => rw [e] at hxj; cases hxj
      | some z => rw [e] at hxj; cases hxj; exact ⟨z, rfl, rfl⟩
    have htk : G.take (j + 1) = G.take j ++ [z] := by rw [List.take_add_one, hz]; rfl
    dsimp only [tNext, tRet, tCB, tCons, tNil, tC, tSeq, tIfS, tTest, tNot, tOr, tAnd, tB, tAndV, tOrV, tNotV, tIf, tDrop, tOp, tChain, rI0, tTup, tLst, tCall, tMeth, tMake, tProp, tFld, sFld, tAsg, gName, tYes, List.map, tNever, tPar, cxK, cxw, cxnK, cxnw, List.singleton_append, List.append_nil, List.cons_append, List.nil_append]
    refine ⟨_, rfl, p, c, _, N + j, rfl, pn, by omega, by decide, by decide, fun H2 d e2 pn2 d0 d1 => ?_⟩
    have hacc2 := e2 _ _ dp hacc
    have eb2 : ExtB p H H2 := fun a o ha h => e2 a o ha (eb a o ha h)
    refine ⟨_, _, rfl, rfl, ?_⟩
    by_cases hd : 0 < d
    · refine ⟨true, dt hd, ?_⟩
      rw [if_pos rfl]
      refine ⟨_, rfl, hM _ _ hacc2 ⟨dp, hD0, fun a o ha h => by rw [upd_ne (ne_of_none h hD0)]; exact eb2 a o ha h, ?_, upd_same, by simpa using la, S ++ [z], by simp, by rw [htk]; exact hS.append (.refl _)⟩⟩
      obtain ⟨ns, go, gr, i1, i2, r⟩ := pn2
      have cD : c ≠ D := fun e => by
        obtain ⟨_, _, _, _, m2, _⟩ := hp
        rw [e, hD0] at m2; cases m2
      exact ⟨ns, go, gr, by rw [upd_ne dp.symm]; exact i1, by rw [upd_ne cD]; exact i2, r⟩
    · refine ⟨false, df hd, ?_⟩
      rw [if_neg (by simp)]
      exact hN' _ ⟨dp, hD0, eb2, pn2, hacc2, Nat.le_succ_of_le la, S, rfl, by rw [htk]; exact hS.trans (List.sublist_append_left _ _)⟩
  obtain ⟨dp, hD0, eb, pn, hacc, la, S, rfl, hS⟩ := hI
  rw [el, List.take_length] at hS
  rw [el] at pn
  have st := hp.stay eb
  have ht1 := ht.stay st
  have hg1 := hg.stay st
  obtain ⟨dx, n, o, us, h1, h2, h3, h4, h5, h6, hG, h8⟩ := id ht1
  have aS : Asc S := List.Pairwise.sublist hS hG.a
  have out : ∀ H', Ext H1 H' → Q (.bl true) H' := fun H' e => q H' (fun a o ha h => e _ _ (eb a o ha h)) ((pn.ext e).mono (by omega))
  refine K0.s0s_cons (K0.s0_ps rfl (ps_if (pt_cmpR (op_eqDt (α := List Str) (ltd hr (by decide))) (pv 3) (pe_lst pa_nil) mk) (pss_one (ps_ret pe_bl)) pss_nil) ?_)
  dsimp only [tNext, tRet, tCB, tCons, tNil, tC, tSeq, tIfS, tTest, tNot, tOr, tAnd, tB, tAndV, tOrV, tNotV, tIf, tDrop, tOp, tChain, rI0, tTup, tLst, tCall, tMeth, tMake, tProp, tFld, sFld, tAsg, gName, tYes, List.map, tNever, tPar, cxK, cxw, cxnK, cxnw, List.singleton_append, List.append_nil, List.cons_append, List.nil_append]
  refine ⟨_, rfl, by decide, fun L hL => ?_⟩
  have eL := Ext.upd (o := .lst []) hL
  refine ⟨S, [], .lst (.of (eL _ _ hacc)) (dp_strs _), .lst (.of upd_same) .nil, ?_⟩
  rw [if_neg (by decide)]
  by_cases hnil : S = []
  · exact ⟨true, by rw [decide_eq_true hnil], iteT (out _ eL)⟩
  refine ⟨false, by rw [decide_eq_false hnil], iteF ?_⟩
  have hS1 : 1 ≤ S.length := List.length_pos_iff.mpr hnil
  have hacc2 := eL _ _ hacc
  have ht2 := ht1.ext eL
  generalize upd H1 L (.lst []) = H2 at *
  have keepEq : ∀ {p : Pt} {f4 : List Str}, f4.Perm (KM.Pt.four p) → decide (restOf f4 S = []) = (KM.Pt.four p).all (fun x => decide (x ∈ S)) := fun {p f4} pm => by
    rw [Bool.eq_iff_iff, decide_eq_true_iff, rest_nil, List.all_eq_true]
    constructor
    · exact fun h x hx => decide_eq_true (h x (pm.mem_iff.mpr hx))
    · exact fun h x hx => of_decide_eq_true (h x (pm.mem_iff.mp hx))
  refine K0.s0s_cons (s0_setLcGc (i := 4) (own := [("_law_parting", 6)]) rfl (calG_partings_of T U) hr (by decide) rfl (pa_cons (pv 1) pa_nil) sc__law_some_right.nd rfl rfl (sw_true rfl rfl rfl (by decide +kernel)) (blkOk_by (N := ["_law_pen_here", "_law_tree_here", "_law_grown", "_law_some", "_law_due", "_law_name", "_law_parting"]) (sc := fnScope (top 68)) (own := [("_law_parting", 6)]) (by decide +kernel)) (by decide +kernel) (fun _ _ _ _ _ => (pg_name (i := 6) sc__law_some_right.nd rfl (Or.inl rfl))) (fun _ _ _ _ _ => (pts_one (pt_cmpR (op_eqDtK (α := List Str) K (ltd hr (by decide))) (pe_lc (own := [("_law_name", 5)]) rfl sc__law_some_right.nd (pi_seqK K (pe_pr (prp_four T) hr (by decide) (pv 6))) (blkOk_by (N := ["_law_pen_here", "_law_tree_here", "_law_grown", "_law_some", "_law_due", "_law_name", "_law_parting"]) (sc := ⟨.function, [(".0", .local), ("_law_parting", .local), ("_law_some", .cell)], false, false, []⟩) (own := [("_law_name", 5)]) (by decide +kernel)) (fun _ _ _ _ _ => (pg_name (i := 5) sc__law_some_right.nd rfl (Or.inl rfl))) (fun _ _ _ _ _ => (pts_one (pt_cmpR (opNotIn K) (pv 5) (pv 3) mk))) (fun _ _ _ _ _ => (pv 5))) (pe_lst pa_nil) mk))) (fun _ _ _ _ _ => (pv 6)) ?_)
  refine ⟨_, rfl, _, ⟨t, G, Fs, rfl, ht2, rfl⟩, ?_⟩
  refine lg_over (fun p : Pt => (KM.Pt.four p).all fun x => decide (x ∈ S)) (fun _ p v H' => ∃ a, v = .ref a ∧ PartAt CP H' a p) (held_len Fs G h13) (fun D p y H1 H2 l hD e ⟨a, h, k⟩ => ⟨a, h, k.extL hD e⟩) (fun D' l p' x H3 M N' hp' hD' hl' e3 hit hM hN' => ?_) fun D4 H4 acc4 hD4 e4 hl4 hR4 => ?_
  · obtain ⟨a, rfl, ha⟩ := hit
    obtain ⟨dxa, _, _, _, _, _, ia, _⟩ := id ha
    dsimp only [tNext, tRet, tCB, tCons, tNil, tC, tSeq, tIfS, tTest, tNot, tOr, tAnd, tB, tAndV, tOrV, tNotV, tIf, tDrop, tOp, tChain, rI0, tTup, tLst, tCall, tMeth, tMake, tProp, tFld, sFld, tAsg, gName, tYes, List.map, tNever, tPar, cxK, cxw, cxnK, cxnw, List.singleton_append, List.append_nil, List.cons_append, List.nil_append]
    refine tlc_of ?_
    refine ⟨_, rfl, a, dxa, _, rfl, ia, a, p', rfl, ha, fun ff f4 hf4 af4 pf4 => ?_⟩
    refine iseq_of (Sq.tup hf4) fun J st ov hst => ?_
    have l4 : f4.length ≤ 40 := by rw [pf4.length_eq]; show 4 ≤ 40; decide
    refine lc_fil ov (keepN S) (show 5 < 7 by decide) hst (vS40 l4) (fun v H5 M' hv e' hM' => ?_) fun D6 H6 hD6 e6 hl6 => ?_
    · obtain ⟨y, hy, rfl⟩ := List.mem_map.mp hv
      exact ⟨_, rfl, _, rfl, notIn_seq (.lst (xs := vS S) ((e3.trans e') _ _ hacc2)) ⟨_, rfl, hM' _ Ext.rfl'⟩⟩
    rw [filter_vN] at hl6
    refine ⟨by decide, fun L7 hL7 => ?_⟩
    have e7 := Ext.upd (o := .lst []) hL7
    refine ⟨restOf f4 S, [], .lst (.of (e7 _ _ hl6)) (dp_strs _), .lst (.of upd_same) .nil, ?_⟩
    rw [if_neg (by decide), keepEq pf4]
    refine ⟨_, rfl, ?_⟩
    have e67 := e6.trans e7
    cases hk : (KM.Pt.four p').all fun x => decide (x ∈ S) with
    | true => exact iteT ⟨_, rfl, hM hk _ _ e67 ⟨a, rfl, ha.ext e67⟩⟩
    | false => exact iteF (hN' hk _ e67)
  refine K0.s0s_one (K0.s0_ret (K0.e0_cmp rfl (op_eq_parts (met_eqP T) hr (by decide)) (pv 4) ?_))
  have ht4 := ht2.ext e4
  have hacc4 := e4 _ _ hacc2
  refine e0_lcGc (own := [("_law_parting", 6)]) (tt := tYes) rfl (calG_partings_of T U) hr (by decide) rfl (pa_cons (C8.pe_mt (met_onlyT T) hr (by decide) (pv 1) (pa_cons (pv 3) pa_nil)) pa_nil) sc__law_some_right.nd (blkOk_by (N := ["_law_pen_here", "_law_tree_here", "_law_grown", "_law_some", "_law_due", "_law_name", "_law_parting"]) (sc := fnScope (top 68)) (own := [("_law_parting", 6)]) (by decide +kernel)) (by decide +kernel) (fun _ _ _ _ _ => (pg_name (i := 6) sc__law_some_right.nd rfl (Or.inl rfl))) (fun _ _ _ _ _ => pts_nil) (fun _ _ _ _ _ => (pv 6)) ?_
  have hi1 : H4 t = some (.ins CT dx [("all_names", .ref n), ("own_cuts", .ref o)]) := (eL.trans e4) _ _ h1
  refine ⟨_, rfl, t, dx, _, rfl, hi1, by rfl, _, rfl, t, D, G, Fs, S, rfl, ht4, .lst hacc4, aS, hS1, fun x hx => hS.subset hx, fun r H5 Us e5 fr htr rst => ?_⟩
  have hGS : G.filter (fun x => decide (x ∈ S)) = S := asc_uniq (hG.a.filter _) aS fun k => by
    rw [List.mem_filter, decide_eq_true_iff]
    exact ⟨fun h => h.2, fun h => ⟨hS.subset h, h⟩⟩
  have heq : KM.held Us S = (KM.held Fs G).filter fun p : Pt => (KM.Pt.four p).all fun x => decide (x ∈ S) := by
    have := KM.held_rest lo_sl (fun x => decide (x ∈ S)) hG.a h6 (by rw [hGS]; exact rst)
    rw [hGS] at this
    exact this
  have l13 : S.length ≤ 13 := Nat.le_trans hS.length_le h13
  refine ⟨_, ⟨r, S, Us, rfl, htr, rfl⟩, ?_⟩
  refine lg_over (fun _ => true) (fun _ p v H' => ∃ a, v = .ref a ∧ PartAt CP H' a p) (held_len Us S l13) (fun D p y H1 H2 l hD e ⟨a, h, k⟩ => ⟨a, h, k.extL hD e⟩) (fun D' l p' x H6 M N' hp' hD' hl' e6 hit hM hN' => ?_) fun D7 H7 acc7 hD7 e7 hl7 hR7 => ?_
  · dsimp only [tYes]
    rw [if_pos rfl]
    exact ⟨_, rfl, hM rfl _ _ Ext.rfl' hit⟩
  rw [filter_all, heq] at hR7
  have e57 := e5.trans e7
  refine ⟨_, rfl, parts_eq hl7 (e57 _ _ hl4) hR7 (hR4.imp fun p v ⟨a, h, k⟩ => ⟨a, h, k.ext e57⟩), fun H8 e8 => ?_⟩
  exact out _ (((eL.trans e4).trans e57).trans e8)
end
end G
end

section
set_option Elab.async false
set_option linter.all false
set_option maxRecDepth 100000
set_option maxHeartbeats 1000000
/-! the law -/
namespace G
open PySem PySem.Spec PyProof.Rows L2
open K0 (GF SpI Item GSt GSts GStm GD gX WD Stay M0 F0 Sp0 E0 T0 S0 S0s LcG)
open C8 (fnScope fnBody fnArgs Cal Met Mak)
open SkE (call_str_str)
theorem SidesAt.pen {H H' : Hp} {p c : Addr} {N : Nat} {rs : List V} {Fs : List (List Str)} (h : SidesAt H rs Fs) (hp : PenAt H p c N) (e : ExtB p H H') : SidesAt H' rs Fs :=
  All2.imp h fun _ _ ⟨a, h1, h2⟩ => ⟨a, h1, e _ _ (side_pen h2 hp) h2⟩
theorem ascK_len {Us Fs : List (List Str)} (h : AscK Us) (m : ∀ F, F ∈ Us ↔ F ∈ Fs) : Us.length ≤ Fs.length := by
  have nd : Us.Nodup := h.imp fun {a b} h e => by rw [e] at h; exact sl_irr _ h
  exact nd.length_le_of_subset fun F hF => (m F).mp hF
def spLaw0 (K : PySem.W.Frag) : Sp0 := fun vs H Q => ∃ s, ∃ ns : List Int, vs = [.ref s] ∧ SqL K H s (ns.map V.int) ∧ ∀ H', Q (.bl true) H'
theorem All2.take {α β : Type} {R : α → β → Prop} {xs : List α} {ys : List β} (h : All2 R xs ys) : ∀ k, All2 R (xs.take k) (ys.take k) := by
  induction h with
  | nil => intro k; simpa using All2.nil
  | cons r _ ih =>
    intro k
    cases k with
    | zero => exact .nil
    | succ k => exact .cons r (ih k)
def G13 : List Str := ["a", "b", "c", "d", "e", "f", "g", "h", "i", "j", "k", "l", "m"]
theorem g13_ok : HostsOk G13 where
  a := by unfold Asc; decide +kernel
  n1 := by decide
  l40 := by decide
  g := by
    intro x hx
    simp only [G13, List.mem_cons, List.not_mem_nil, or_false] at hx
    rcases hx with rfl | rfl | rfl | rfl | rfl | rfl | rfl | rfl | rfl | rfl | rfl | rfl | rfl <;> exact ⟨by decide +kernel, by decide +kernel, by decide +kernel⟩
section
variable {P : Program} {w : World} {K : PySem.W.Frag} {mg : Str → Option Value} {base : Heap} {CP CC CT : Addr}
theorem sc_law : FnScope ["_law_script", "_law_pen_here", "_law_turn", "_law_grown", "_law_sides", "_law_tree_here", "_law_near_here", "_law_other", "_law_side"] ["_law_script"] (fnScope (top 69)) := ⟨rfl, rfl, rfl, by decide +kernel, rfl, by decide +kernel, by decide +kernel⟩
theorem law_body (T : TX K mg CP CC CT) (U : TY K mg) (f : Addr) (cdv : Value) (A : Around) (outer : List Env) (s : Shared) (H : Hp) (vs : List V) (Q : VK) (hr : Room 19 (A.deeper (envOfC "law" (fnScope (top 69)) s.heap.objs.size f cdv))) (h : spLaw0 K vs H Q) :
    S0s (cxOf K0.CX0 P w K mg base ["_law_script", "_law_pen_here", "_law_turn", "_law_grown", "_law_sides", "_law_tree_here", "_law_near_here", "_law_other", "_law_side"] "law" (fnScope (top 69)) f cdv A outer s H fun _ _ _ => False).nox (fnBody (top 69)) (start ["_law_script", "_law_pen_here", "_law_turn", "_law_grown", "_law_sides", "_law_tree_here", "_law_near_here", "_law_other", "_law_side"] vs) H { nx := fun _ H' => Q .non H', rt := Q } := by
  obtain ⟨sc, ns, rfl, hsc, q⟩ := h
  obtain ⟨T0, hT0, mk1⟩ := (mak_Trees (P := P) (w := w) (base := base) T).2
  refine K0.s0s_cons (K0.s0_ps rfl (ps_set (i := 1) sc_law.nd rfl (Or.inr rfl) (C8.pe_c (cal__law_pen T) hr (by decide) rfl (pa_cons (pv 0) pa_nil))) ?_)
  dsimp only [tNext, tRet, tCB, tCons, tNil, tC, tSeq, tIfS, tTest, tNot, tOr, tAnd, tB, tAndV, tOrV, tNotV, tIf, tDrop, tOp, tChain, rI0, tTup, tLst, tCall, tMeth, tMake, tProp, tFld, sFld, tAsg, gName, tYes, List.map, tNever, tPar, cxK, cxw, cxnK, cxnw, List.singleton_append, List.append_nil, List.cons_append, List.nil_append]
  refine ⟨_, rfl, sc, ns, rfl, hsc, fun H1 p e1 hp1 c hc1 pn1 => ?_⟩
  refine K0.s0s_cons (K0.s0_for rfl rfl (pi_range1 (by rfl) (T.nb "range" (by decide)) (pa_cons pe_int pa_nil)) (pg_name (i := 2) sc_law.nd rfl (Or.inl rfl)) ?_)
  refine tfor_of ?_
  refine ⟨_, rfl, by decide, by decide, ?_⟩
  let Sh : L2.St → Prop := fun σ => ∃ x2 x3 x4 x5 x6 x7, σ = [some (.ref sc), some (.ref p), x2, x3, x4, x5, x6, x7, none]
  refine for_over (over_range (lo := 0) (n := 2)) (fun j σ' H' => PenAt H' p c (j * 1000) ∧ Sh σ') ⟨pn1, none, none, none, none, none, none, rfl⟩ (fun _ _ _ _ => trivial) (fun j σ' H2 xt w hxt => ?_) fun σ' H2 w => ?_
  · obtain ⟨pn2, x2, x3, x4, x5, x6, x7, rfl⟩ := w
    have hj : j < 2 := by
      rcases Nat.lt_or_ge j 2 with h | h
      · exact h
      · rw [List.getElem?_eq_none (by simpa using h)] at hxt; cases hxt
    have hN : j * 1000 ≤ 1000 := by omega
    generalize hNj : j * 1000 = N at *
    -- hosts
    refine K0.s0s_cons (K0.s0_ps rfl (ps_set (i := 3) sc_law.nd rfl (Or.inl rfl) (C8.pe_c (cal__law_hosts T) hr (by decide) rfl (pa_cons (pv 1) (pa_cons pe_int (pa_cons pe_int pa_nil))))) ?_)
    dsimp only [tNext, tRet, tCB, tCons, tNil, tC, tSeq, tIfS, tTest, tNot, tOr, tAnd, tB, tAndV, tOrV, tNotV, tIf, tDrop, tOp, tChain, rI0, tTup, tLst, tCall, tMeth, tMake, tProp, tFld, sFld, tAsg, gName, tYes, List.map, tNever, tPar, cxK, cxw, cxnK, cxnw, List.singleton_append, List.append_nil, List.cons_append, List.nil_append]
    refine ⟨_, rfl, p, c, N, rfl, pn2, by omega, fun H3 g G e3 hg0 hg hG hG7 pn3 => ?_⟩
    -- sides
    refine K0.s0s_cons (K0.s0_ps rfl (ps_set (i := 4) sc_law.nd rfl (Or.inl rfl) (C8.pe_c (cal__law_fars T) hr (by decide) rfl (pa_cons (pv 1) (pa_cons (pv 3) pa_nil)))) ?_)
    dsimp only [tNext, tRet, tCB, tCons, tNil, tC, tSeq, tIfS, tTest, tNot, tOr, tAnd, tB, tAndV, tOrV, tNotV, tIf, tDrop, tOp, tChain, rI0, tTup, tLst, tCall, tMeth, tMake, tProp, tFld, sFld, tAsg, gName, tYes, List.map, tNever, tPar, cxK, cxw, cxnK, cxnw, List.singleton_append, List.append_nil, List.cons_append, List.nil_append]
    refine ⟨_, rfl, _, rfl, p, c, g, N + 13, G, rfl, pn3, by omega, hg, hG, by omega, fun H4 r rs Fs e4 hr0 hrs hsd hok hcmp hlen pn4 => ?_⟩
    have gp : g ≠ p := pn3.ne hg fun _ _ _ z => by cases z
    have rp : r ≠ p := fun e => by obtain ⟨l, h⟩ := pn3.lst; rw [e, h] at hr0; cases hr0
    have hg4 : TupS H4 g G := e4 _ _ gp hg
    have h40 : Fs.length ≤ 40 := by omega
    -- the tree
    refine K0.s0s_cons (K0.s0_ps rfl (ps_set (i := 5) sc_law.nd rfl (Or.inl rfl) (C8.pe_c (cal__law_tree T) hr (by decide) rfl (pa_cons (pv 3) (pa_cons (pv 4) pa_nil)))) ?_)
    dsimp only [tNext, tRet, tCB, tCons, tNil, tC, tSeq, tIfS, tTest, tNot, tOr, tAnd, tB, tAndV, tOrV, tNotV, tIf, tDrop, tOp, tChain, rI0, tTup, tLst, tCall, tMeth, tMake, tProp, tFld, sFld, tAsg, gName, tYes, List.map, tNever, tPar, cxK, cxw, cxnK, cxnw, List.singleton_append, List.append_nil, List.cons_append, List.nil_append]
    refine ⟨_, rfl, _, rfl, g, r, G, rs, Fs, rfl, hg4.sq, hG, .lst hrs, hsd, hok, hcmp, h40, fun H5 t Us e5 ht0 ht hU => ?_⟩
    have pn5 := pn4.ext e5
    have hg5 := e5 _ _ hg4
    have hrs5 := e5 _ _ hrs
    have hsd5 := hsd.ext e5
    have l6 : Us.length ≤ 6 := by
      obtain ⟨_, _, _, _, _, _, _, _, aU, _⟩ := id ht
      have := ascK_len aU hU
      omega
    -- near it
    refine K0.s0s_cons (K0.s0_ps rfl (ps_setLc (i := 6) (own := [("_law_side", 8)]) rfl sc_law.nd rfl rfl (sw_true rfl rfl rfl (by decide +kernel)) (pi_seq (pv 4)) (blkOk_by (N := ["_law_script", "_law_pen_here", "_law_turn", "_law_grown", "_law_sides", "_law_tree_here", "_law_near_here", "_law_other", "_law_side"]) (sc := fnScope (top 69)) (own := [("_law_side", 8)]) (by decide +kernel)) (fun _ _ _ _ _ => (pg_name (i := 8) sc_law.nd rfl (Or.inl rfl))) (fun _ _ _ _ _ => (pts_one (pt_cmpR op_gt (C8.pe_c (cal__law_draw T) hr (by decide) rfl (pa_cons (pv 1) (pa_cons pe_int pa_nil))) pe_int mk))) (fun _ _ _ _ _ => (pv 8))) ?_)
    dsimp only [tNext, tRet, tCB, tCons, tNil, tC, tSeq, tIfS, tTest, tNot, tOr, tAnd, tB, tAndV, tOrV, tNotV, tIf, tDrop, tOp, tChain, rI0, tTup, tLst, tCall, tMeth, tMake, tProp, tFld, sFld, tAsg, gName, tYes, List.map, tNever, tPar, cxK, cxw, cxnK, cxnw, List.singleton_append, List.append_nil, List.cons_append, List.nil_append]
    refine tlc_of ?_
    refine ⟨_, rfl, r, rs, rfl, .inl ⟨.of hrs5, ?_⟩⟩
    have lrs : rs.length = Fs.length := hsd.length.symm
    refine lc_inv (over_list (K := K) (a := r) (xs := rs)) (fun D j acc H' => D ≠ p ∧ H5 D = none ∧ ExtB p H5 H' ∧ PenAt H' p c (N + 113 + j) ∧ H' D = some (.lst acc) ∧ acc.length ≤ j ∧ ∃ Fn, SidesAt H5 acc Fn ∧ Fn.Sublist (Fs.take j))
      (fun D hD => ?_) (fun D j acc H' h => ?_) (Nat.le_trans (show rs.length ≤ 40 by omega) (by decide)) (fun D j acc H' h => ⟨h.2.2.2.2.1, h.2.2.2.2.2.1⟩) (fun D j acc x H6 M N' hI hxj hM hN' => ?_) fun D acc H6 hI => ?_
    · have dp : D ≠ p := fun e => by obtain ⟨l, h⟩ := pn5.lst; rw [e, h] at hD; cases hD
      exact ⟨dp, hD, fun a o _ h => (Ext.upd hD) _ _ h, (pn5.ext (Ext.upd hD)).mono (by omega), upd_same, Nat.le_refl _, [], .nil, by simp⟩
    · exact .of (h.2.2.1 _ _ rp hrs5)
    · obtain ⟨dp, hD0, eb, pn, hacc, la, Fn, hFn, hS⟩ := hI
      obtain ⟨F, hF, a, rfl, ha⟩ := All2.get hsd5 hxj
      have hj' : j < rs.length := by
        rcases Nat.lt_or_ge j rs.length with h | h
        · exact h
        · rw [List.getElem?_eq_none h] at hxj; cases hxj
      have htk : Fs.take (j + 1) = Fs.take j ++ [F] := by rw [List.take_add_one, hF]; rfl
      dsimp only [tNext, tRet, tCB, tCons, tNil, tC, tSeq, tIfS, tTest, tNot, tOr, tAnd, tB, tAndV, tOrV, tNotV, tIf, tDrop, tOp, tChain, rI0, tTup, tLst, tCall, tMeth, tMake, tProp, tFld, sFld, tAsg, gName, tYes, List.map, tNever, tPar, cxK, cxw, cxnK, cxnw, List.singleton_append, List.append_nil, List.cons_append, List.nil_append]
      refine ⟨_, rfl, p, c, _, N + 113 + j, rfl, pn, by omega, by decide, by decide, fun H7 d e7 pn7 d0 d1 => ?_⟩
      have hacc7 := e7 _ _ dp hacc
      have eb7 : ExtB p H5 H7 := fun a o ha h => e7 a o ha (eb a o ha h)
      refine ⟨_, _, rfl, rfl, ?_⟩
      by_cases hd : 0 < d
      · refine ⟨true, dt hd, ?_⟩
        rw [if_pos rfl]
        refine ⟨_, rfl, hM _ _ hacc7 ⟨dp, hD0, fun a o ha h => by rw [upd_ne (ne_of_none h hD0)]; exact eb7 a o ha h, ?_, upd_same, by simpa using la, Fn ++ [F], hFn.append (.cons ⟨a, rfl, ha⟩ .nil), by rw [htk]; exact hS.append (.refl _)⟩⟩
        obtain ⟨ns', go, gr, i1, i2, rr⟩ := pn7
        have cD : c ≠ D := fun e => by
          obtain ⟨_, _, _, _, m2, _⟩ := pn5
          rw [e, hD0] at m2; cases m2
        exact ⟨ns', go, gr, by rw [upd_ne dp.symm]; exact i1, by rw [upd_ne cD]; exact i2, rr⟩
      · refine ⟨false, df hd, ?_⟩
        rw [if_neg (by simp)]
        exact hN' _ ⟨dp, hD0, eb7, pn7, hacc7, Nat.le_succ_of_le la, Fn, hFn, by rw [htk]; exact hS.trans (List.sublist_append_left _ _)⟩
    obtain ⟨dp, hD0, eb, pn6, hacc, la, Fn, hFn, hS⟩ := hI
    rw [lrs, List.take_length] at hS
    have pn6 : PenAt H6 p c (N + 130) := pn6.mono (by omega)
    have st56 := pn5.stay eb
    have ht6 := ht.stay st56
    have hg6 : TupS H6 g G := TupS.stay hg5 st56
    have hsn6 := hFn.pen pn5 eb
    have okn : ∀ F ∈ Fn, CutOk G F := fun F hF => hok F (hS.subset hF)
    have cmpn : KM.AllCmp G Fn := fun F hF F' hF' => hcmp F (hS.subset hF) F' (hS.subset hF')
    have ln40 : Fn.length ≤ 40 := Nat.le_trans hS.length_le h40
    -- against the others
    refine K0.s0s_cons (K0.s0_for rfl rfl (pi_seq (pe_tup (pa_cons (C8.pe_c (cal__law_tree T) hr (by decide) rfl (pa_cons (pv 3) (pa_cons (pv 6) pa_nil))) (pa_cons (C8.pe_c (cal__law_tree T) hr (by decide) rfl (pa_cons (pv 3) (pa_cons (C8.pe_c (cal__law_fars T) hr (by decide) rfl (pa_cons (pv 1) (pa_cons (pv 3) pa_nil))) pa_nil))) (pa_cons (C8.pe_mk mk1 hr (by decide) rfl (pa_cons (pv 3) pa_nil)) (pa_cons (pv 5) pa_nil)))))) (pg_name (i := 7) sc_law.nd rfl (Or.inl rfl)) ?_)
    refine tfor_of ?_
    refine ⟨_, rfl, _, rfl, g, D, G, acc, Fn, rfl, hg6.sq, hG, .lst hacc, hsn6, okn, cmpn, ln40, fun H7 t1 U1 e7 _ ht1 _ => ?_⟩
    have pn7 := pn6.ext e7
    have hg7 := e7 _ _ hg6
    refine ⟨_, rfl, _, rfl, _, rfl, p, c, g, N + 130, G, rfl, pn7, by omega, hg7, hG, by omega, fun H8 r8 rs8 F8 e8 hr8 hrs8 hsd8 hok8 hcmp8 hlen8 pn8 => ?_⟩
    have st78 := pn7.stay e8
    have hg8 : TupS H8 g G := TupS.stay hg7 st78
    refine ⟨g, r8, G, rs8, F8, rfl, hg8.sq, hG, .lst hrs8, hsd8, hok8, hcmp8, by omega, fun H9 t2 U2 e9 _ ht2 _ => ?_⟩
    have hg9 := e9 _ _ hg8
    have pn9 := pn8.ext e9
    refine ⟨_, rfl, fun x3 dx3 fx3 fd3 nx3 => ?_⟩
    refine tree_made (K := K) (CC := CC) (CT := CT) fx3 fd3 nx3 (TupS.sq hg9) (.refl _) hG (.inr (hT0 _)) (Fs := []) .nil (by decide) (fun F h => absurd h (by simp)) fun H10 U3 e10 ht3 _ => ?_
    refine ⟨_, rfl, by show 4 ≤ sizeLine; decide, fun pt hpt => ?_⟩
    have e11 := Ext.upd (o := .tup [.ref t1, .ref t2, .ref x3, .ref t]) hpt
    have E9 := e9.trans (e10.trans e11)
    have hpt11 : (upd H10 pt (.tup [.ref t1, .ref t2, .ref x3, .ref t])) pt = some (.tup [.ref t1, .ref t2, .ref x3, .ref t]) := upd_same
    have ht11 : TreeAt CC CT (upd H10 pt (.tup [.ref t1, .ref t2, .ref x3, .ref t])) t G Us := ((ht6.ext e7).stay st78).ext E9
    have all11 : ∀ x ∈ [V.ref t1, V.ref t2, V.ref x3, V.ref t], ∃ b Fb, x = .ref b ∧ TreeAt CC CT (upd H10 pt (.tup [.ref t1, .ref t2, .ref x3, .ref t])) b G Fb := by
      intro x hx
      simp only [List.mem_cons, List.not_mem_nil, or_false] at hx
      rcases hx with rfl | rfl | rfl | rfl
      · exact ⟨_, _, rfl, (ht1.stay st78).ext E9⟩
      · exact ⟨_, _, rfl, ht2.ext (e10.trans e11)⟩
      · exact ⟨_, _, rfl, ht3.ext e11⟩
      · exact ⟨_, _, rfl, ht11⟩
    have hg11 := (e10.trans e11) _ _ hg9
    have pn11 := pn9.ext (e10.trans e11)
    generalize upd H10 pt (.tup [.ref t1, .ref t2, .ref x3, .ref t]) = H11 at *
    refine iseq_of (Sq.tup hpt11) fun J st ov hst => ?_
    refine for_over ov (fun j σ' H' => Ext H11 H' ∧ ∃ x7, σ' = [some (.ref sc), some (.ref p), some xt, some (.ref g), some (.ref r), some (.ref t), some (.ref D), x7, none]) ⟨Ext.rfl', _, rfl⟩ (fun j σ' H' w => hst _ w.1) (fun j' σ' H12 x w hx => ?_) fun σ' H12 w => ?_
    · obtain ⟨e12, y7, rfl⟩ := w
      obtain ⟨b, Fb, rfl, hb⟩ := all11 x (List.mem_of_getElem? hx)
      refine K0.s0s_one (K0.s0_if (K0.t0_w (K0.t0_or (K0.t0_not (K0.t0_val (e0_callc rfl (cal0_pair_right T U) hr (by decide) rfl (pa_cons (pv 5) (pa_cons (pv 7) pa_nil)) ?_))))))
      refine ⟨_, rfl, _, rfl, t, b, G, Us, Fb, rfl, ht11.ext e12, hb.ext e12, hG7, fun H13 e13 => ⟨true, rfl, ?_⟩⟩
      refine iteF ?_
      refine K0.t0_or1 (K0.t0_not (K0.t0_val (e0_callc rfl (cal0_pair_right T U) hr (by decide) rfl (pa_cons (pv 7) (pa_cons (pv 5) pa_nil)) ?_)))
      refine ⟨_, rfl, _, rfl, b, t, G, Fb, Us, rfl, (hb.ext e12).ext e13, (ht11.ext e12).ext e13, hG7, fun H14 e14 => ⟨true, rfl, ?_⟩⟩
      exact iteF (K0.s0s_nil ⟨(e12.trans e13).trans e14, _, rfl⟩)
    · obtain ⟨e12, y7, rfl⟩ := w
      have ht12 := ht11.ext e12
      have hg12 := e12 _ _ hg11
      have pn12 := pn11.ext e12
      refine K0.s0s_cons (K0.s0_if (K0.t0_w (K0.t0_or (K0.t0_not (K0.t0_val (e0_callc rfl (cal0_answers_right T U) hr (by decide) rfl (pa_cons (pv 5) (pa_cons (pv 3) pa_nil)) ?_))))))
      refine ⟨_, rfl, _, rfl, t, g, G, Us, rfl, ht12, hg12, by omega, fun H13 e13 => ⟨true, rfl, ?_⟩⟩
      refine iteF ?_
      refine K0.t0_or1 (K0.t0_not (K0.t0_val (e0_callc rfl (cal0_cuts_right T U) hr (by decide) rfl (pa_cons (pv 5) (pa_cons (pv 3) pa_nil)) ?_)))
      refine ⟨_, rfl, _, rfl, t, g, G, Us, rfl, ht12.ext e13, e13 _ _ hg12, hG7, l6, fun H14 e14 => ⟨true, rfl, ?_⟩⟩
      refine iteF (K0.s0s_nil ?_)
      refine K0.s0s_one (K0.s0_if (K0.t0_not (K0.t0_val (e0_callc rfl (cal0_some_right T U) hr (by decide) rfl (pa_cons (pv 1) (pa_cons (pv 5) (pa_cons (pv 3) pa_nil))) ?_))))
      refine ⟨_, rfl, _, rfl, _, rfl, p, c, t, g, G, Us, _, rfl, (pn12.ext e13).ext e14, by omega, (ht12.ext e13).ext e14, e14 _ _ (e13 _ _ hg12), by omega, fun H15 e15 pn15 => ⟨true, rfl, ?_⟩⟩
      refine iteF (K0.s0s_nil ⟨?_, _, _, _, _, _, _, rfl⟩)
      have hj1 : (j + 1) * 1000 = N + 1000 := by omega
      rw [hj1]
      exact pn15.mono (by omega)
  · obtain ⟨pn2, x2, x3, x4, x5, x6, x7, rfl⟩ := w
    have pn2 : PenAt H2 p c 2000 := pn2
    refine K0.s0s_cons (K0.s0_ps rfl (ps_set (i := 3) sc_law.nd rfl (Or.inl rfl) (pe_callTy (cr_tupleS rfl) (by rfl) (T.nb "tuple" (by decide)) (by decide +kernel) (pa_cons pe_str pa_nil))) ?_)
    dsimp only [tNext, tRet, tCB, tCons, tNil, tC, tSeq, tIfS, tTest, tNot, tOr, tAnd, tB, tAndV, tOrV, tNotV, tIf, tDrop, tOp, tChain, rI0, tTup, tLst, tCall, tMeth, tMake, tProp, tFld, sFld, tAsg, gName, tYes, List.map, tNever, tPar, cxK, cxw, cxnK, cxnw, List.singleton_append, List.append_nil, List.cons_append, List.nil_append]
    refine ⟨_, rfl, by decide, fun g hg0 => ?_⟩
    have e3 := Ext.upd (o := .tup (vS G13)) hg0
    have hg3 : (upd H2 g (.tup (vS G13))) g = some (.tup (vS G13)) := upd_same
    show S0s _ _ _ (upd H2 g (.tup (vS G13))) _
    have pn3 := pn2.ext e3
    generalize upd H2 g (.tup (vS G13)) = H3 at *
    refine K0.s0s_cons (K0.s0_ps rfl (ps_set (i := 5) sc_law.nd rfl (Or.inl rfl) (C8.pe_c (cal__law_tree T) hr (by decide) rfl (pa_cons (pv 3) (pa_cons (pe_slice sl_seq (C8.pe_c (cal__law_fars T) hr (by decide) rfl (pa_cons (pv 1) (pa_cons (pv 3) pa_nil))) po_none (po_some pe_int)) pa_nil)))) ?_)
    dsimp only [tNext, tRet, tCB, tCons, tNil, tC, tSeq, tIfS, tTest, tNot, tOr, tAnd, tB, tAndV, tOrV, tNotV, tIf, tDrop, tOp, tChain, rI0, tTup, tLst, tCall, tMeth, tMake, tProp, tFld, sFld, tAsg, gName, tYes, List.map, tNever, tPar, cxK, cxw, cxnK, cxnw, List.singleton_append, List.append_nil, List.cons_append, List.nil_append]
    refine ⟨_, rfl, _, rfl, _, rfl, p, c, g, 2000, G13, rfl, pn3, by omega, hg3, g13_ok, by decide, fun H4 r rs Fs e4 hr0 hrs hsd hok hcmp hlen pn4 => ?_⟩
    have gp : g ≠ p := pn3.ne hg3 fun _ _ _ z => by cases z
    have hg4 : TupS H4 g G13 := e4 _ _ gp hg3
    refine ⟨_, rfl, slq_of (Sq.lst hrs) fun p5 H5 e5 hs => ?_⟩
    rw [show (6 : Int) = ((6 : Nat) : Int) from rfl, cut_hi] at hs
    have hg5 : TupS H5 g G13 := e5 _ _ hg4
    have pn5 := pn4.ext e5
    refine ⟨g, p5, G13, rs.take 6, Fs.take 6, rfl, hg5.sq, g13_ok, hs, All2.take (hsd.ext e5) 6, fun F hF => hok F (List.mem_of_mem_take hF), fun F hF F' hF' => hcmp F (List.mem_of_mem_take hF) F' (List.mem_of_mem_take hF'), by rw [List.length_take]; omega, fun H6 t Us e6 _ ht _ => ?_⟩
    have hg6 := e6 _ _ hg5
    have pn6 := pn5.ext e6
    refine K0.s0s_one (K0.s0_ret (K0.e0_and (e0_callc rfl (cal0_answers_right T U) hr (by decide) rfl (pa_cons (pv 5) (pa_cons (pv 3) pa_nil)) ?_)))
    refine ⟨_, rfl, _, rfl, t, g, G13, Us, rfl, ht, hg6, by decide, fun H7 e7 => ⟨true, rfl, ?_⟩⟩
    refine iteT (K0.e0_one (e0_callc rfl (cal0_some_right T U) hr (by decide) rfl (pa_cons (pv 1) (pa_cons (pv 5) (pa_cons (pv 3) pa_nil))) ?_))
    exact ⟨_, rfl, _, rfl, _, rfl, p, c, t, g, G13, Us, _, rfl, pn6.ext e7, by omega, ht.ext e7, e7 _ _ hg6, by decide, fun H8 _ _ => q H8⟩
end
end G
end

section
set_option Elab.async false
set_option linter.all false
set_option maxRecDepth 100000
set_option maxHeartbeats 1000000
/-! the end: a law's walk over the softened model, from the promise of its def -/
namespace K0
open PySem PySem.Spec PyProof.Rows L2 PySem.Calls
theorem law_callU {P : Program} {w : World} {K : PySem.W.Frag} {mg mb : Str → Option Value} {k : Nat} {fa a : Addr} {fd : FuncData} {x : Str} {sp : Sp0} {s₁ : Shared} {vs : List Value} {ns : List Int}
    (KX : K.In s₁.heap) (hns : s₁.heap.Ns mainGlobals mg) (hb : s₁.heap.Ns builtinsNs mb) (hbb : ∀ x : Str, x ≠ "__name__" → mb x = bootBuiltins x) (hlim : s₁.heap.NoLimit) (hg : s₁.gens = #[])
    (ha : s₁.heap.get? a = some { cls := .type "list", data := .seq vs.toArray }) (hi : IntsAre vs ns) (hl : ns.length ≤ sizeLine) (hr : Room k callerA)
    (F : ∀ base : Heap, K.In base → base.Ns mainGlobals mg → F0 P w K mg base k fa fd [x] sp) (hbind : ∀ (s : Shared) (u : Value), BindsTo s fd ⟨[u], []⟩ [(x, u)])
    (hsp : ∀ H : Hp, Only H → SqL K H a (ns.map V.int) → sp [.ref a] H (fun v _ => v = .bl true)) :
    codeAny (M0 P w) callerA (.call (.ref fa) ⟨[.ref a], []⟩) (fun r s' => r = .ok (.ret (.bool true)) ∧ OldK s₁.heap s'.heap ∧ s'.os = s₁.os ∧ AllBare s'.gens ∧ Um [] s'.gens) s₁ := by
  have rv := vals_ints hi
  have lenV := hi.length
  have core : ∀ H : Hp, Only H → SqL K H a (ns.map V.int) → HOk P w H s₁.heap → (∀ b, H b ≠ none → b = a) → (H a ≠ none → K.lookup a = none) →
      codeAny (M0 P w) callerA (.call (.ref fa) ⟨[.ref a], []⟩) (fun r s' => r = .ok (.ret (.bool true)) ∧ OldK s₁.heap s'.heap ∧ s'.os = s₁.os ∧ AllBare s'.gens ∧ Um [] s'.gens) s₁ := by
    intro H hO hS hok hA hK
    have base_of : ∀ {b : Addr} {o : Obj}, s₁.heap.get? b = some o → H b = none → (hidT s₁.heap H).get? b = some o := fun e n => hidT_get e n
    have noA : ∀ {b : Addr} {o : Obj} {es : Array DictEntry} {ep : Nat}, s₁.heap.get? b = some o → o.data = .dict es ep → H b = none := fun {b o es ep} e d => by
      cases q : H b with
      | none => rfl
      | some u =>
        have e' : b = a := hA b (by rw [q]; simp)
        subst e'
        rw [ha] at e; cases e
        have d' : Data.seq vs.toArray _ = Data.dict es ep := d
        cases d'
    have nsK : ∀ {b : Addr} {m : Str → Option Value}, s₁.heap.Ns b m → (hidT s₁.heap H).Ns b m := fun {b m} ⟨o, es, ep, e, d, r⟩ => ⟨o, es, ep, base_of e (noA e d), d, r⟩
    have hKb : K.In (hidT s₁.heap H) := fun b o e => base_of (KX b o e) (by
      cases q : H b with
      | none => rfl
      | some u =>
        have e' : b = a := hA b (by rw [q]; simp)
        subst e'
        rw [hK (by rw [q]; simp)] at e; cases e)
    have hM : Mod K mg (hidT s₁.heap H) := ⟨hKb, nsK hns, ⟨mb, nsK hb, hbb⟩, let ⟨mc, h1, h2⟩ := hlim; ⟨mc, nsK h1, h2⟩⟩
    have e0 : Env0 P w K mg (hidT s₁.heap H) callerA [] s₁ H := ⟨rfl, hM, fun b o e => of_hidT e, Nat.le_of_eq (hidT_size _ _), trivial, fun b hb => absurd (show b ∈ ([] : List Addr) from hb) (by simp), hok, .of_eq hg⟩
    have um : Um [] s₁.gens := by
      intro i k l c p fs cl e
      rw [hg] at e
      simp at e
    refine codeAny_mono ((F _ hKb (nsK hns)).run callerA [] s₁ H ⟨[.ref a], []⟩ [.ref a] [.ref a] _ hr e0 (hbind s₁ (.ref a)) (.cons rfl .nil) um (hsp H hO hS)) fun r s' h => ?_
    obtain ⟨u, rfl, ⟨v, H', os, bare, un, hok', r', q⟩, um'⟩ := h
    have q' : v = .bl true := q
    subst q'
    obtain rfl : u = Value.bool true := r'
    refine ⟨rfl, OldK.of_keep fun b o e => ?_, os, bare, um'⟩
    cases q : H b with
    | none => exact un.keep b o e q (by intro z; exact absurd (show b ∈ ([] : List Addr) from z) (by simp)) (by simp)
    | some u =>
      rcases hO b with z | ⟨ob, xs, z⟩
      · rw [q] at z; cases z
      · have z2 := un.frzs b ob _ z
        obtain ⟨e1, _⟩ := hok b _ z
        obtain ⟨e2, _⟩ := hok' b _ z2
        rw [e] at e1; cases e1
        exact e2
  cases hk : K.lookup a with
  | some o =>
    have e := KX a o hk
    rw [ha] at e
    cases e
    refine core (fun _ => none) (fun _ => .inl rfl) (.inr ⟨_, vs.toArray, _, hk, rfl, rfl, rfl, by rw [List.size_toArray, lenV]; exact hl, by simpa using rv⟩) (fun b u z => by have z' : (none : Option HO) = some u := z; cases z') (fun b z => absurd rfl z) fun z => absurd rfl z
  | none =>
    refine core (fun b => if b = a then some (.frz { cls := .type "list", data := .seq vs.toArray } (.lst (ns.map V.int))) else none) (fun b => ?_) (.inl (.inr ⟨{ cls := .type "list", data := .seq vs.toArray }, if_pos rfl⟩)) (fun b u z => ?_) (fun b z => ?_) fun _ => hk
    · by_cases hb : b = a
      · exact .inr ⟨_, _, if_pos hb⟩
      · exact .inl (if_neg hb)
    · by_cases hb : b = a
      · have z' := (if_pos hb).symm.trans z
        cases z'
        subst hb
        exact ⟨ha, by rw [List.length_map]; exact hl, vs, _, rv, ha⟩
      · have z' := (if_neg hb).symm.trans z
        cases z'
    · by_cases hb : b = a
      · exact hb
      · exact absurd (if_neg hb) z
end K0
namespace K0
open PySem PySem.Spec PyProof.Rows L2 PySem.Calls PySem.W
theorem walkU_of {l : OpenLaw} {n k : Nat} {q : Program} {loose : List Str} {XP : (Str → Option Value) → Heap → Prop} {YP : World → Heap → Prop} {d : DefRec} {x : Str}
    (hn : l.most = some n) (hn2 : n ≤ sizeLine) (hdf : d.params.defaults = []) (hr : Room k callerA)
    (F : ∀ (w : World) (mg : Str → Option Value) (fa : Addr) (h : Heap), YP w h → h.Ns mainGlobals mg → mg d.name = some (.ref fa) →
      ∃ (K : Frag) (fd : FuncData) (sp : Sp0), K.In h ∧ (∀ (s : Shared) (u : Value), BindsTo s fd ⟨[u], []⟩ [(x, u)]) ∧
        (∀ (H : Hp) (a : Addr) (ns : List Int), ns.length ≤ n → Only H → SqL K H a (ns.map V.int) → sp [.ref a] H (fun v _ => v = .bl true)) ∧
        ∀ base : Heap, K.In base → base.Ns mainGlobals mg → F0 l.prog w K mg base k fa fd [x] sp) :
    WalkU q loose XP YP l.row.toRowW d [] := by
  intro w s₀ s₁ mg mb G Y fa o pm cd doc dV kV ho hd hcd hD hmg hg args vals as hpre hlay hrd hwl hlo
  obtain rfl : dV = .none := Dflts.none hD hdf
  obtain rfl : kV = .none := Dflts.noKw hD
  obtain ⟨a, vs, ns, rfl, rfl, hobj, hints, hlen⟩ := Att.script_of hn hpre hwl
  obtain ⟨K, fd, sp, KX, hb, hsp, hF⟩ := F w mg fa _ Y G.T.g hmg
  refine wpAny_call (codeAny_mono (law_callU (P := l.prog) (w := w) KX G.T.g G.T.b G.T.builtins G.T.nolimit hg hobj hints (Nat.le_trans hlen hn2) hr hF hb (fun H hO hS => hsp H a ns hlen hO hS)) fun r s' hq => ?_)
  obtain ⟨rfl, h2, h3, h4, h5⟩ := hq
  exact ⟨⟨.inl ⟨.bool true, .bool true, [], rfl, fun _ => rfl, .bool true, Att.post_true l _, fun _ => ⟨List.Pairwise.nil, fun _ hm => (nomatch hm)⟩⟩, h2, h3, h4⟩, h5⟩
open HandSHeadRun in
theorem head_anyU {r : OpenRow} {q : Program} {H : Hook} {ob : SharedT → H.α} {M : Nat} {loose : List PySem.Str} {d : DefRec} {kwd : List (PySem.Str × PySem.Expr)} (ho : ∀ s : SharedT, ob s = H.obs s.abs)
    (e : opening r.prog = plainProg r.prog.main.scope.names) (f : ∀ s, fenceModules? r.prog s = some s) (run : ∀ w, RunEq r q H ob M loose w)
    (hdef : defOf q r.name = some (d, kwd)) (hp : r.prog.theDef r.name = some (d.params, d.body, d.scope)) (hk : kwWritten? d.params.kwonlyargs d.params.kw_defaults = some kwd)
    (hwr : (!r.writes || r.records.isEmpty) = true) (k1 : r.wellSaid = true) (ok : (chainsOk q && opensWell r.prog && (frees r.toRowW && r.within.isEmpty)) = true) (hb : r.prog.bare) (hw : r.toRowW.promised)
    (walk : WalkU q loose (XL q []) H.says r.toRowW d kwd) : r.Holds := by
  have left : LeftO r.prog q loose (fun s => xlAt q [] s && recOk r.toRowW.records s) H.obs H.val (M + 600) true :=
    left_one (M := M) e (Nat.ble_eq_true_of_le (by omega)) f (Nat.ble_eq_true_of_le (by omega)) fun w os => by
      have z := run w os
      have eo : ob = fun s => H.obs s.abs := funext ho
      rw [eo] at z
      simp only [endQ_eq, seenQ_eq]
      exact z
  exact holds_up (r := r) (q := q) (loose := loose) (XP := XL q []) (YP := H.says) (d := d) (kwd := kwd) left H.of H.keeps (fun s z => xl_of s (Bool.and_eq_true_iff.mp z).1) XL.keeps hdef hp hk (fun s z => recFacts_of (Bool.and_eq_true_iff.mp z).2) hwr k1 ok hb hw walk
end K0
end

section
set_option Elab.async false
set_option linter.all false
set_option maxRecDepth 100000
set_option maxHeartbeats 2000000
/-! the facts of the top, by the head; the law -/
namespace G
open PySem PySem.Spec PyProof.Rows L2
open C8 (fnScope fnBody fnArgs)
section
variable {K : PySem.W.Frag} {mg : Str → Option Value} {h : Heap}
theorem funC {x q : Str} {st : Stmt} {dvs : List V} {f : Addr} {fd : FuncData} (F : FunD K x q (fnArgs st) (fnBody st) (fnScope st) dvs [] f fd) : C8.Fun K x q st f fd := by
  obtain ⟨oc, od, dV, kV, doc, pm, an, cdv, ct, osl, e, lk, hc, _, _⟩ := F.ex
  exact ⟨oc, od, dV, kV, doc, pm, an, cdv, ct, osl, e, lk, hc⟩
theorem dfl0 {x q : Str} {st : Stmt} {f : Addr} {fd : FuncData} (F : FunD K x q (fnArgs st) (fnBody st) (fnScope st) [] [] f fd) : fd.defaults = .none := by
  obtain ⟨oc, od, dV, kV, doc, pm, an, cdv, ct, osl, rfl, lk, hc, hd, _⟩ := F.ex
  rcases hd with ⟨_, rfl⟩ | ⟨e, _⟩
  · rfl
  · exact absurd rfl e
variable (X : K.In h) (G : h.Ns mainGlobals mg) (c : SaysH fa fn exB K)
theorem dfnH (X : K.In h) (G : h.Ns mainGlobals mg) (c : SaysH fa fn exB K) (i j : Nat) {x n : Str} {st : Stmt} (hi : fn[i]? = some (gD x n st [])) (hj : fa[j]? = some (.glo x)) : Dfn K mg x n st := by
  obtain ⟨fd, F⟩ := c.def_ i hi
  exact ⟨He.ga K x, fd, funC F, He.glo_ok X G (c.fact j hj), F.kp, dfl0 F⟩
theorem mtdH (c : SaysH fa fn exB K) (i j : Nat) {x m q : Str} {st : Stmt} (hi : fn[i]? = some (mD x m q st [])) (hj : fa[j]? = some (.meth x m)) : Mtd K (He.ga K x) m q st := by
  obtain ⟨fd, F⟩ := c.def_ i hi
  exact ⟨He.ma K (He.ga K x) m, fd, He.meth_ok (c.fact j hj), funC F, dfl0 F⟩
theorem mkdH (c : SaysH fa fn exB K) (i j : Nat) {x q : Str} {st : Stmt} (hi : fn[i]? = some (mD x "__init__" q st [])) (hj : fa[j]? = some (.mkr x)) : Mkd K (He.ga K x) q st := by
  obtain ⟨fd, F⟩ := c.def_ i hi
  exact ⟨He.ma K (He.ga K x) "__init__", fd, He.mkr_ok (c.fact j hj), funC F, dfl0 F⟩
theorem ppdH (c : SaysH fa fn exB K) (i j : Nat) {x m q : Str} {st : Stmt} (hi : fn[i]? = some (pD x m q st)) (hj : (exO K)[j]? = some (prpB K x m)) : Ppd K (He.ga K x) m q st := by
  obtain ⟨fd, F⟩ := c.def_ i hi
  exact ⟨He.ma K (He.ga K x) m, gP K (He.ma K (He.ga K x) m), fd, prpB_ok (exB_ok c.more j hj), funC F, dfl0 F⟩
theorem txH (X : K.In h) (G : h.Ns mainGlobals mg) (c : SaysH fa fn exB K) : TX K mg (He.ga K "Parting") (He.ga K "Cut") (He.ga K "Tree") where
  nb := fun x hx => by
    have h0 : x = "isinstance" ∨ x = "str" ∨ x = "len" ∨ x = "all" ∨ x = "any" ∨ x = "set" ∨ x = "list" ∨ x = "tuple" ∨ x = "sorted" ∨ x = "enumerate" ∨ x = "int" ∨ x = "abs" ∨ x = "range" := by simpa using hx
    rcases h0 with rfl | rfl | rfl | rfl | rfl | rfl | rfl | rfl | rfl | rfl | rfl | rfl | rfl
    · exact He.free_ok X G (c.fact 0 rfl)
    · exact He.free_ok X G (c.fact 1 rfl)
    · exact He.free_ok X G (c.fact 2 rfl)
    · exact He.free_ok X G (c.fact 3 rfl)
    · exact He.free_ok X G (c.fact 4 rfl)
    · exact He.free_ok X G (c.fact 5 rfl)
    · exact He.free_ok X G (c.fact 6 rfl)
    · exact He.free_ok X G (c.fact 7 rfl)
    · exact He.free_ok X G (c.fact 8 rfl)
    · exact He.free_ok X G (c.fact 9 rfl)
    · exact He.free_ok X G (c.fact 10 rfl)
    · exact He.free_ok X G (c.fact 11 rfl)
    · exact He.free_ok X G (c.fact 12 rfl)
  g_LETTERS := by
    obtain ⟨t, e⟩ := He.str_ok X G (c.fact (f := .str "LETTERS" LET) 20 rfl)
    exact ⟨_, e, t, rfl⟩
  g_LONGEST_NAME := by
    obtain ⟨t, e⟩ := He.int_ok X G (c.fact (f := .int "LONGEST_NAME" 8) 13 rfl)
    exact ⟨_, e, t, rfl⟩
  g_MOST_HOSTS := by
    obtain ⟨t, e⟩ := He.int_ok X G (c.fact (f := .int "MOST_HOSTS" 40) 14 rfl)
    exact ⟨_, e, t, rfl⟩
  g_PAIR_partings := by
    obtain ⟨t, e⟩ := He.int_ok X G (c.fact (f := .int "PAIR_partings" 2) 15 rfl)
    exact ⟨_, e, t, rfl⟩
  g_FOUR_partings := by
    obtain ⟨t, e⟩ := He.int_ok X G (c.fact (f := .int "FOUR_partings" 4) 16 rfl)
    exact ⟨_, e, t, rfl⟩
  g_LEAST_SIDE := by
    obtain ⟨t, e⟩ := He.int_ok X G (c.fact (f := .int "LEAST_SIDE" 2) 17 rfl)
    exact ⟨_, e, t, rfl⟩
  g_PAIR_trees := by
    obtain ⟨t, e⟩ := He.int_ok X G (c.fact (f := .int "PAIR_trees" 2) 18 rfl)
    exact ⟨_, e, t, rfl⟩
  g_FOUR_trees := by
    obtain ⟨t, e⟩ := He.int_ok X G (c.fact (f := .int "FOUR_trees" 4) 19 rfl)
    exact ⟨_, e, t, rfl⟩
  c_Parting := He.glo_ok X G (c.fact 21 rfl)
  c_Cut := He.glo_ok X G (c.fact 23 rfl)
  c_Tree := He.glo_ok X G (c.fact 25 rfl)
  iP := insB_ok (He.cls_ok (c.fact 22 rfl)) (exB_ok c.more 0 rfl)
  iC := insB_ok (He.cls_ok (c.fact 24 rfl)) (exB_ok c.more 1 rfl)
  iT := insB_ok (He.cls_ok (c.fact 26 rfl)) (exB_ok c.more 2 rfl)
  nP := fun f hf => by
    have h0 : f = "both_pairs" ∨ f = "all_four" := by simpa using hf
    rcases h0 with rfl | rfl
    · exact He.noat_ok (c.fact 27 rfl)
    · exact He.noat_ok (c.fact 28 rfl)
  nC := fun f hf => by
    have h0 : f = "near_side" ∨ f = "far_side" ∨ f = "all_names" := by simpa using hf
    rcases h0 with rfl | rfl | rfl
    · exact He.noat_ok (c.fact 29 rfl)
    · exact He.noat_ok (c.fact 30 rfl)
    · exact He.noat_ok (c.fact 31 rfl)
  nT := fun f hf => by
    have h0 : f = "all_names" ∨ f = "own_cuts" := by simpa using hf
    rcases h0 with rfl | rfl
    · exact He.noat_ok (c.fact 32 rfl)
    · exact He.noat_ok (c.fact 33 rfl)
  fP := exB_ok c.more 3 rfl
  fC := exB_ok c.more 4 rfl
  fT := exB_ok c.more 5 rfl
  fPN := exB_ok c.more 6 rfl
  sPN := of_decide_eq_true (exB_ok c.more 7 rfl)
  kPN := of_decide_eq_true (exB_ok c.more 8 rfl)
  sfT := exB_ok c.more 9 rfl
  d_is_name := dfnH X G c 0 34 rfl rfl
  d_are_names := dfnH X G c 1 35 rfl rfl
  d_ascending_names := dfnH X G c 2 36 rfl rfl
  d_hosts_of := by
    obtain ⟨fd, F⟩ := c.def_ 3 (d := gD "hosts_of" "hosts_of" (top 23) [.int 40]) rfl
    obtain ⟨ds, r, b⟩ := FunD.binds1 (ps := ["values", "most"]) F 1 0 (by intro z; cases z) rfl fun T kV doc pm an cdv ct us its h1 h2 => match us, its, h1, h2 with | [_], [_], _, _ => ⟨_, rfl, rfl⟩
    exact ⟨He.ga K "hosts_of", fd, ds, funC F, He.glo_ok X G (c.fact 37 rfl), F.kp, b, r⟩
  d_answers_of := dfnH X G c 4 38 rfl rfl
  d_is_side := dfnH X G c 5 39 rfl rfl
  d_ascending_cuts := dfnH X G c 6 40 rfl rfl
  d_in_order := dfnH X G c 7 41 rfl rfl
  d_first_crossing := dfnH X G c 8 42 rfl rfl
  d_need_cuts := dfnH X G c 9 43 rfl rfl
  d_need_same := dfnH X G c 10 44 rfl rfl
  d_pen := dfnH X G c 11 45 rfl rfl
  d_draw := dfnH X G c 12 46 rfl rfl
  d_mixed := dfnH X G c 13 47 rfl rfl
  d_hosts := dfnH X G c 14 48 rfl rfl
  d_fars := dfnH X G c 15 49 rfl rfl
  d_near := dfnH X G c 16 50 rfl rfl
  d_cut := dfnH X G c 17 51 rfl rfl
  d_tree := dfnH X G c 18 52 rfl rfl
  d_all_cuts := dfnH X G c 19 53 rfl rfl
  d_made := dfnH X G c 20 54 rfl rfl
  k_Parting := mkdH c 21 55 rfl rfl
  p_four := ppdH c 22 11 rfl rfl
  p_pairs := ppdH c 23 12 rfl rfl
  m_place := mtdH c 24 56 rfl rfl
  m_ltP := mtdH c 25 57 rfl rfl
  m_eqP := mtdH c 26 58 rfl rfl
  m_strP := mtdH c 27 59 rfl rfl
  k_Cut := mkdH c 28 60 rfl rfl
  p_near := ppdH c 29 13 rfl rfl
  p_far := ppdH c 30 14 rfl rfl
  p_hostsC := ppdH c 31 15 rfl rfl
  m_makes := mtdH c 32 61 rfl rfl
  m_crosses := mtdH c 33 62 rfl rfl
  m_onlyC := mtdH c 34 63 rfl rfl
  m_eqC := mtdH c 35 64 rfl rfl
  k_Tree := by
    obtain ⟨fd, F⟩ := c.def_ 36 (d := mD "Tree" "__init__" "Tree.__init__" (inClass (top 50) 1) [.adr (He.dflAt ("Tree", some "__init__") 0)]) rfl
    obtain ⟨ds, r, b⟩ := FunD.binds1 (ps := ["self", "hosts", "cuts"]) F 2 0 (by intro z; cases z) rfl fun T kV doc pm an cdv ct us its h1 h2 => match us, its, h1, h2 with | [_, _], [_], _, _ => ⟨_, rfl, rfl⟩
    obtain ⟨ds', r', b'⟩ := FunD.binds1 (ps := ["self", "hosts", "cuts"]) F 3 1 (by intro z; cases z) rfl fun T kV doc pm an cdv ct us its h1 h2 => match us, its, h1, h2 with | [_, _, _], [_], _, _ => ⟨_, rfl, rfl⟩
    cases r'
    exact ⟨He.ma K (He.ga K "Tree") "__init__", fd, He.dflAt ("Tree", some "__init__") 0 K, ds, He.mkr_ok (c.fact 65 rfl), funC F, b', tupA_ok (exB_ok c.more 10 rfl), r, b⟩
  p_hostsT := ppdH c 37 16 rfl rfl
  p_cuts := ppdH c 38 17 rfl rfl
  m_need_host := mtdH c 39 66 rfl rfl
  m_onlyT := mtdH c 40 67 rfl rfl
  m_callT := mtdH c 41 68 rfl rfl
  m_hasT := mtdH c 42 69 rfl rfl
  m_andT := mtdH c 43 70 rfl rfl
  m_leT := mtdH c 44 71 rfl rfl
  m_geT := mtdH c 45 72 rfl rfl
  m_eqT := mtdH c 46 73 rfl rfl
theorem tyH (X : K.In h) (G : h.Ns mainGlobals mg) (c : SaysH fa fn exB K) : TY K mg where
  d_chosen := dfnH X G c 47 74 rfl rfl
  d_fours_of := dfnH X G c 48 75 rfl rfl
  d_partings_of := dfnH X G c 49 76 rfl rfl
  d_texts := dfnH X G c 50 77 rfl rfl
  d_answers_right := dfnH X G c 51 78 rfl rfl
  d_cuts_right := dfnH X G c 52 79 rfl rfl
  d_pair_right := dfnH X G c 53 80 rfl rfl
  d_some_right := dfnH X G c 54 81 rfl rfl
end
theorem lawH {w : World} {K : PySem.W.Frag} {mg : Str → Option Value} {h : Heap} {f : Addr} (X : K.In h) (G : h.Ns mainGlobals mg) (hfa : mg ("law" : Str) = some (.ref f)) (c : SaysH fa fn exB K) :
    ∃ fd : FuncData, (∀ (s : Shared) (v : Value), BindsTo s fd ⟨[v], []⟩ [("_law_script", v)]) ∧ ∀ base : Heap, K.In base → base.Ns mainGlobals mg → K0.F0 R.prog w K mg base 20 f fd ["_law_script"] (spLaw0 K) := by
  obtain ⟨fd, F⟩ := c.def_ 55 (d := gD "law" "law" (top 69) []) rfl
  have e := hfa.symm.trans (He.glo_ok X G (c.fact 82 (f := .glo "law") rfl))
  cases e
  have b := FunD.bindsA (ps := ["_law_script"]) F fun _ _ _ _ _ _ us hl => match us, hl with | [_], _ => rfl
  refine ⟨fd, fun s v => b s [v] rfl, fun base _ _ => ?_⟩
  obtain ⟨oc, od, dV, kV, doc, pm, an, cdv, ct, osl, rfl, lk, hcd, _, _⟩ := F.ex
  exact K0.f0_of lk hcd sc_law (fun vs H Q h => by obtain ⟨_, _, rfl, _⟩ := h; rfl) fun A outer s H vs Q hr h => law_body (txH X G c) (tyH X G c) (He.ga K "law") cdv A outer s H vs Q hr h
end G
open PySem PySem.W PySem.Calls PyProof.Rows
theorem PySem.Challenge.cw_seenframes_k20_whole_cuts_and_partings_holds : PySem.Challenge.rw_seenframes_k20_whole_cuts_and_partings.Holds := by
  w_on; o_law
  refine K0.head_anyU (r := OpenLaw.row PySem.Challenge.rw_seenframes_k20_whole_cuts_and_partings) (q := view (OpenLaw.row PySem.Challenge.rw_seenframes_k20_whole_cuts_and_partings).prog [69]) (H := G.hkH) (ob := G.obH) (M := 20000) (loose := G.names) (d := HandSHeadRun.topDef (OpenLaw.row PySem.Challenge.rw_seenframes_k20_whole_cuts_and_partings).prog 69) (kwd := []) G.obH_eq
    (by kernel_rfl) (fun s => by kernel_rfl) G.runH (by kernel_rfl) (by kernel_rfl) (by kernel_rfl) (by rfl) (by first | assumption | decide +kernel) (by decide +kernel) ⟨rfl, rfl, rfl, rfl, rfl, by decide +kernel⟩ ?hw ?hc
  case hw => w_witness2
  case hc =>
    refine K0.walkU_of (l := PySem.Challenge.rw_seenframes_k20_whole_cuts_and_partings) (n := 63) (k := 20) (x := "_law_script") rfl (by decide) (by kernel_rfl) ⟨rfl, by decide, by decide⟩ ?F
    intro w mg fa h Y G hmg0
    obtain ⟨K, KX, c⟩ := Y
    have hmg : mg ("law" : PySem.Str) = some (.ref fa) := by
      have e : (HandSHeadRun.topDef (OpenLaw.row PySem.Challenge.rw_seenframes_k20_whole_cuts_and_partings).prog 69).name = ("law" : PySem.Str) := by kernel_rfl
      rw [← e]
      exact hmg0
    obtain ⟨fd, hb, hF⟩ := _root_.G.lawH (w := w) KX G hmg c
    exact ⟨K, fd, _root_.G.spLaw0 K, KX, hb, fun H a ns hl _ hS => ⟨a, ns, rfl, hS, fun _ => rfl⟩, hF⟩
end
