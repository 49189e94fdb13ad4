import PyProof.Rows.All
import Wide.All
import OpenK.AllK
import Wide.FinOn
import KE.KStateDown
import HandS.Words
import HandS.Head2
import HandS.HeadEnd
import HandS.HeadHook1
import HandS.HeadHook2
import HandS.HeadHook3
import HandS.ExcIs
import HandS.ExcOwn
import PySem.Challenge.RW_leasefiles_k02_whole_edits_of_texts
import HandS.ForMost
import HandS.IsInst
import HandS.TupAny
import HandS.More
import HandS.Zip
import HandS.CallLocal
import HandS.Exc
import HandS.ExcInit
import KE.LtData
import KE.GoesNew
import HandS.Style
import HandS.Wide
import HandS.Conv
import HandS.SortRule
import KE.GoesEnum
import KE.DataMinMax
import HandS.ForExc
import HandS.TryMany
import HandS.Deep
import HandS.Strs
import PyProof.ReprLen
import HandS.ExcValue
import PyProof.P3Eq
import PyProof.StrBlock2
set_option Elab.async false
set_option linter.all false
set_option autoImplicit false
set_option maxRecDepth 100000
set_option maxHeartbeats 4000000
namespace Dl
open PySem PySem.Spec PyProof.Rows PySem.Calls L2
inductive Sn where
  | nil
  | node (b : Bool) (l r : Sn)
def Sn.has : Nat → Sn → Nat → Bool
  | 0, _, _ => true
  | _ + 1, .nil, _ => false
  | n + 1, .node b l r, i => match Nat.beq i 0 with
    | true => b
    | false => match Nat.beq (i % 2) 1 with
      | true => Sn.has n l (i / 2)
      | false => Sn.has n r (i / 2 - 1)
def Sn.ins : Nat → Sn → Nat → Sn
  | 0, t, _ => t
  | n + 1, .nil, i => match Nat.beq i 0 with
    | true => .node true .nil .nil
    | false => match Nat.beq (i % 2) 1 with
      | true => .node false (Sn.ins n .nil (i / 2)) .nil
      | false => .node false .nil (Sn.ins n .nil (i / 2 - 1))
  | n + 1, .node b l r, i => match Nat.beq i 0 with
    | true => .node true l r
    | false => match Nat.beq (i % 2) 1 with
      | true => .node b (Sn.ins n l (i / 2)) r
      | false => .node b l (Sn.ins n r (i / 2 - 1))
/-- what an object names, as far as facts go -/
def refsX (o : Obj) : List Addr := match o.cls with
  | .type "module" => []
  | _ => match o.data with
    | .seq its _ => its.toList.flatMap He.refV
    | .dict es _ => es.toList.flatMap fun e => He.refV e.val
    | .func fd => He.refV fd.code
    | .cls cd => cd.ns :: cd.mro.flatMap He.refV
    | _ => []
def reachF (g : Addr → Option Obj) : Nat → List Addr → Sn → List Addr → List Addr
  | 0, _, _, acc => acc
  | _ + 1, [], _, acc => acc
  | n + 1, a :: r, t, acc => HandSHeadRun.frNat a fun a => match Sn.has 40 t a with
    | true => reachF g n r t acc
    | false => match g a with
      | some o => reachF g n (refsX o ++ r) (Sn.ins 40 t a) (a :: acc)
      | none => reachF g n r (Sn.ins 40 t a) acc
def frList {α β : Type} : List α → (List α → β) → β
  | [], k => k []
  | x :: r, k => frList r fun r' => k (x :: r')
theorem frList_eq {α β : Type} : ∀ (l : List α) (k : List α → β), frList l k = k l
  | [], k => rfl
  | x :: r, k => by
    show frList r (fun r' => k (x :: r')) = _
    rw [frList_eq r]
def frOf (g : Addr → Option Obj) : PySem.W.Frag := He.frG g (reachF g 400000 [mainGlobals] .nil []).reverse
def dvA (K : PySem.W.Frag) (a : Addr) (k : Str) : Addr := match PySem.W.nsIn K a k with
  | some (some (.ref b)) => b
  | _ => 0
inductive Fx where
  | fa (f : He.Fa)
  | df (x : Str)
  | mt (c m q : Str)
  | cl (c : Str)
  | tp (a : PySem.W.Frag → Addr) (vs : List He.Dv)
  | va (n k : Str)
  | ex (c : Str)
  | ef (l d : Str)
  | en (d e : Str)
  | xq (c : Str)
  | xm (d l : Str) (b : Bool)
def isOB (o : Option Bool) (b : Bool) : Bool := match o with
  | some true => b
  | some false => !b
  | none => false
def isTy (o : Option Value) (n : String) : Bool := match o with
  | some (.type m) => decide (m = n)
  | _ => false
/-- what an own error class answers -/
def errC (K : PySem.W.Frag) (C : Addr) : Bool :=
  (PySem.W.excIn K C [.type "ValueError", .type "Exception", .type "BaseException", .type "object"] "ValueError.__new__" && (PySem.W.keepIn K (.ref C) && (isOB (PySem.W.subIn K (.ref C) (.type "BaseException")) true && isTy (PySem.W.typeIn K (.ref C)) "type"))) &&
  ((He.eqO (PySem.W.findIn K (.ref C) "__getattribute__") (some (some (.builtin "BaseException.__getattribute__"))) && (He.eqO (PySem.W.findIn K (.ref C) "__getattr__") (some none) && (PySem.W.hasDictIn K C && He.eqO (PySem.W.findIn K (.ref C) "__class__") (some (some (.builtin "object.__class__")))))) &&
  (He.eqO (PySem.W.specialIn K (.builtin "object.__class__") "__get__") (some (some (.builtin "getset_descriptor.__get__"))) && (isOB (PySem.W.takesIn K (.builtin "object.__class__")) true && isOB (PySem.W.mroIn K C (.type "object")) true)))
def tupC (K : PySem.W.Frag) (a : Addr) (vs : List V) : Bool := match K.lookup a with
  | some ⟨.type c, _, .seq its _, _⟩ => decide (c = "tuple") && (Nat.ble its.toList.length 1000 && He.relAll vs its.toList)
  | _ => false
/-- what is told of an error class whose errors are values -/
def errV (K : PySem.W.Frag) (C : Addr) (x : Str) : Bool := (["int", "bool", "str", "tuple", "list"].all fun T => isOB (PySem.W.kitOne K (.ref C) (.type T)) false) && (match PySem.W.clsIn K C with
  | some r => decide (r.name = x)
  | none => false)
def Fx.ok (K : PySem.W.Frag) : Fx → Bool
  | .fa f => f.ok K
  | .df x => (He.Fa.glo x).ok K && ((He.Fa.keep x).ok K && (He.Fa.code (x, none) x).ok K)
  | .mt c m q => (He.Fa.meth c m).ok K && (He.Fa.code (c, some m) q).ok K
  | .cl c => (He.Fa.glo c).ok K && ((He.Fa.cls c).ok K && (PySem.W.makesIn K (He.ga K c) && PySem.W.keepIn K (.ref (He.ga K c))))
  | .tp a vs => tupC K (a K) (vs.map (He.Dv.v K))
  | .ex c => (He.Fa.glo c).ok K && errC K (He.ga K c)
  | .ef l d => isOB (PySem.W.exmOne K (.ref (He.ga K d)) (.ref (He.ga K l))) true && (isOB (PySem.W.kitOne K (.ref (He.ga K d)) (.type "ValueError")) true && isOB (PySem.W.kitOne K (.ref (He.ga K d)) (.ref (He.ga K d))) true)
  | .en d e => isOB (PySem.W.kitOne K (.ref (He.ga K d)) (.ref (He.ga K e))) false
  | .xq c => ((He.Fa.glo c).ok K && errC K (He.ga K c)) && errV K (He.ga K c) c
  | .xm d l b => isOB (PySem.W.exmOne K (.ref (He.ga K d)) (.ref (He.ga K l))) b
  | .va n k => He.eqO (PySem.W.nsIn K (He.ga K n) k) (some (some (.ref (dvA K (He.ga K n) k))))
def fnT (x : Str) (st : Stmt) : He.FnD := ⟨(x, none), x, x, defArgs st, defBody st, defScope st⟩
abbrev AlH : Type := Bool × List He.FnV × List (Option (List (Option (Str × Int))))
def obsH (fx : List Fx) (fn : List He.FnD) (ts : List (Str × List Str)) (K : PySem.W.Frag) : AlH := (fx.all fun f => f.ok K, fn.map fun d => He.fnObs K d.at_, ts.map fun t => He.dicW K (He.ga K t.1))
def valH (fn : List He.FnD) (ts : List (Str × List Str)) (w : World) : AlH := (true, fn.map He.FnD.val, ts.map fun t => some (He.keysIn w.params t.2))
def SaysH (fx : List Fx) (fn : List He.FnD) (ts : List (Str × List Str)) (w : World) (K : PySem.W.Frag) : Prop := obsH fx fn ts K = valH fn ts w
def obsHG (fx : List Fx) (fn : List He.FnD) (ts : List (Str × List Str)) (g : Addr → Option Obj) : AlH := frList (frOf g) (obsH fx fn ts)
def hookH (fx : List Fx) (fn : List He.FnD) (ts : List (Str × List Str)) : PySem.W.Hook where
  α := AlH
  obs := fun s => obsHG fx fn ts s.heap.get?
  val := valH fn ts
  says := fun w h => ∃ K : PySem.W.Frag, K.In h ∧ SaysH fx fn ts w K
  of := fun w s e => ⟨frOf s.heap.get?, He.frG_in, by
    have e2 : frList (frOf s.heap.get?) (obsH fx fn ts) = valH fn ts w := e
    rw [frList_eq] at e2
    exact e2⟩
  keeps := fun _ _ _ ⟨K, hK, c⟩ k => ⟨K, PySem.W.Frag.In.keeps hK k, c⟩
theorem obH_eq {fx : List Fx} {fn : List He.FnD} {ts : List (Str × List Str)} (s : PySem.W.SharedT) : obsHG fx fn ts (HandSHeadRun.getT s) = (hookH fx fn ts).obs s.abs := by
  have e : HandSHeadRun.getT s = s.abs.heap.get? := funext (HandSHeadRun.getT_eq s)
  rw [e] <;> rfl
/-- two runs for one: the looks, the facts -/
theorem run_two {r : PySem.W.OpenRow} {q : Program} {H : PySem.W.Hook} {ob : PySem.W.SharedT → H.α} {M : Nat} {loose : List Str} {w : World}
    (h1 : ∀ os, (HandSHeadRun.endF (HandSHeadRun.stepQ (HandSHeadRun.denQ HandSHeadRun.tabQ) r.prog w) M r.prog w os).map (fun s => (HandSHeadRun.looksF r.prog (PySem.W.boot_heap w.params) s.abs, HandSHeadRun.seenQ q loose (importedModules r.prog.main.body) (fun s => PySem.W.xlAt q [] s && PySem.W.recOk r.toRowW.records s) s.abs)) = some (true, PySem.W.openGood q loose))
    (h2 : ∀ os, (HandSHeadRun.endF (HandSHeadRun.stepQ (HandSHeadRun.denQ HandSHeadRun.tabQ) r.prog w) M r.prog w os).map ob = some (H.val w)) : HandSHeadRun.RunEq r q H ob M loose w := fun os => by
  have a := h1 os
  have b := h2 os
  cases e : HandSHeadRun.endF (HandSHeadRun.stepQ (HandSHeadRun.denQ HandSHeadRun.tabQ) r.prog w) M r.prog w os with
  | none => rw [e] at a; cases a
  | some s =>
    rw [e] at a b
    have a2 := Option.some.inj a
    have b2 := Option.some.inj b
    show some _ = some _
    rw [← b2]
    obtain ⟨a3, a4⟩ := Prod.mk.inj a2
    exact congrArg some (Prod.ext a3 (Prod.ext a4 rfl))
end Dl
set_option Elab.async false
set_option linter.all false
set_option maxRecDepth 100000
set_option maxHeartbeats 0
set_option pp.maxSteps 60
namespace Hd
open PySem PySem.Spec PyProof.Rows L2 Dl
def topR (i : Nat) : Stmt := PySem.Challenge.pw_leasefiles_k02_whole_edits_of_texts.main.body.getD i (.Pass ⟨0, 0, 0, 0⟩)
def fx : List Fx := [.df "law",
  .df "_law_well",
  .df "_law_content",
  .df "_law_draw",
  .df "_law_filled",
  .df "_law_mixed",
  .df "_law_text",
  .df "_law_string",
  .df "_law_signs",
  .df "_law_plain",
  .df "_law_told",
  .df "edited",
  .df "is_content",
  .df "is_text",
  .df "is_plain_edit",
  .df "is_edit",
  .df "is_count",
  .df "is_name",
  .df "is_client",
  .df "is_number",
  .df "has_word",
  .df "are_all",
  .df "is_integer",
  .df "is_between",
  .df "can_be_done",
  .df "raw_edited",
  .df "_law_done",
  .df "_law_alike",
  .df "_law_odd_text",
  .df "_law_any",
  .df "_law_number",
  .df "_law_name",
  .df "_law_odd_edit",
  .df "_law_spoilt",
  .df "_law_changed",
  .df "_law_nodes",
  .df "_law_edit",
  .df "_law_client",
  .df "_law_due",
  .df "_law_text_fits",
  .df "_law_edit_fits",
  .df "_law_count",
  .df "_law_name_fits",
  .df "_law_pair_fits",
  .df "_law_long",
  .df "_law_client_fits",
  .df "_law_is_back",
  .fa (.int "MOST_IN_TEXT" (96)),
  .fa (.str "PUT" "put"),
  .fa (.str "SPLICE" "splice"),
  .fa (.str "REMOVE" "remove"),
  .fa (.glo "EDITS"),
  .fa (.int "MOST_IN_NAME" (8)),
  .fa (.str "SIGNS" "abcdefghijklmnopqrstuvwxyz"),
  .fa (.int "MOST_CLIENTS" (9)),
  .ex "NoText",
  .ex "NoEdit",
  .ex "Unfit",
  .ex "LeaseError",
  .va "EDITS" "put",
  .tp (fun K => (dvA K (He.ga K "EDITS") "put")) [.glo "is_text"],
  .va "EDITS" "splice",
  .tp (fun K => (dvA K (He.ga K "EDITS") "splice")) [.glo "is_count", .glo "is_count", .glo "is_text"],
  .va "EDITS" "remove",
  .tp (fun K => (dvA K (He.ga K "EDITS") "remove")) [],
  .va "EDITS" "take",
  .tp (fun K => (dvA K (He.ga K "EDITS") "take")) [.glo "is_name"],
  .va "EDITS" "adopt",
  .tp (fun K => (dvA K (He.ga K "EDITS") "adopt")) [.glo "is_client", .glo "is_number"],
  .va "EDITS" "drop",
  .tp (fun K => (dvA K (He.ga K "EDITS") "drop")) [.glo "is_client", .glo "is_number"],
  .xm "NoText" "NoText" true,
  .xm "NoEdit" "NoText" false,
  .xm "NoEdit" "NoEdit" true,
  .xm "Unfit" "NoText" false,
  .xm "Unfit" "NoEdit" false,
  .xm "Unfit" "Unfit" true,
  .ex "NoTable",
  .xq "NoTable",
  .fa (.free "isinstance"),
  .fa (.free "len"),
  .fa (.free "all"),
  .fa (.free "range"),
  .fa (.free "zip"),
  .fa (.free "int"),
  .fa (.free "str"),
  .fa (.free "bool"),
  .fa (.free "tuple"),
  .fa (.free "list"),
  .fa (.free "abs"),
  .fa (.free "max"),
  .fa (.free "enumerate"),
  .fa (.free "sorted"),
  .fa (.free "sum"),
  .fa (.free "min"),
  .fa (.free "any"),
  .fa (.free "repr"),
  .fa (.free "ord"),
  .fa (.free "dict"),
  .fa (.free "set"),
  .fa (.free "ValueError")]
def fn : List He.FnD := [fnT "law" (topR 73),
  fnT "_law_well" (topR 36),
  fnT "_law_content" (topR 49),
  fnT "_law_draw" (topR 38),
  fnT "_law_filled" (topR 37),
  fnT "_law_mixed" (topR 35),
  fnT "_law_text" (topR 48),
  fnT "_law_string" (topR 41),
  fnT "_law_signs" (topR 40),
  fnT "_law_plain" (topR 66),
  fnT "_law_told" (topR 68),
  fnT "edited" (topR 33),
  fnT "is_content" (topR 24),
  fnT "is_text" (topR 23),
  fnT "is_plain_edit" (topR 30),
  fnT "is_edit" (topR 29),
  fnT "is_count" (topR 9),
  fnT "is_name" (topR 22),
  fnT "is_client" (topR 21),
  fnT "is_number" (topR 25),
  fnT "has_word" (topR 28),
  fnT "are_all" (topR 27),
  fnT "is_integer" (topR 7),
  fnT "is_between" (topR 8),
  fnT "can_be_done" (topR 31),
  fnT "raw_edited" (topR 32),
  fnT "_law_done" (topR 67),
  fnT "_law_alike" (topR 65),
  fnT "_law_odd_text" (topR 70),
  fnT "_law_any" (topR 44),
  fnT "_law_number" (topR 39),
  fnT "_law_name" (topR 42),
  fnT "_law_odd_edit" (topR 71),
  fnT "_law_spoilt" (topR 47),
  fnT "_law_changed" (topR 46),
  fnT "_law_nodes" (topR 45),
  fnT "_law_edit" (topR 55),
  fnT "_law_client" (topR 50),
  fnT "_law_due" (topR 72),
  fnT "_law_text_fits" (topR 59),
  fnT "_law_edit_fits" (topR 64),
  fnT "_law_count" (topR 56),
  fnT "_law_name_fits" (topR 58),
  fnT "_law_pair_fits" (topR 61),
  fnT "_law_long" (topR 57),
  fnT "_law_client_fits" (topR 60),
  fnT "_law_is_back" (topR 69)]
def ts : List (Str × List Str) := [("EDITS", ["put", "splice", "remove", "take", "adopt", "drop"])]
def names0 : List Str := ["LeaseError", "NoText", "NoEdit", "Unfit", "NoTable", "is_integer", "is_between", "is_count", "MOST_CLIENTS", "MOST_IN_NAME", "MOST_IN_TEXT", "SIGNS", "PUT", "SPLICE", "REMOVE", "TAKE", "ADOPT", "DROP", "is_client", "is_name", "is_text", "is_content", "is_number", "EDITS", "are_all", "has_word", "is_edit", "is_plain_edit", "can_be_done", "raw_edited"]
def names1 : List Str := ["edited", "_law_mixed", "_law_well", "_law_filled", "_law_draw", "_law_number", "_law_signs", "_law_string", "_law_name", "_law_unlike", "_law_any", "_law_nodes", "_law_changed", "_law_spoilt", "_law_text", "_law_content", "_law_client", "_law_stamp", "_law_base", "_law_kind", "_law_talk", "_law_edit", "_law_count", "_law_long", "_law_name_fits", "_law_text_fits", "_law_client_fits", "_law_pair_fits", "_law_stamp_fits", "_law_base_fits"]
def names2 : List Str := ["_law_edit_fits", "_law_alike", "_law_plain", "_law_done", "_law_told", "_law_is_back", "_law_odd_text", "_law_odd_edit", "_law_due"]
def names : List Str := names0 ++ names1 ++ names2
abbrev R : PySem.W.OpenRow := PySem.W.OpenLaw.row PySem.Challenge.rw_leasefiles_k02_whole_edits_of_texts
abbrev qv : Program := PySem.W.view R.prog [73]
abbrev hk : PySem.W.Hook := hookH fx fn ts
def ob (s : PySem.W.SharedT) : AlH := obsHG fx fn ts (HandSHeadRun.getT s)
theorem ob_eq (s : PySem.W.SharedT) : ob s = hk.obs s.abs := obH_eq s
theorem seenA (w : World) (os : OsState) : (HandSHeadRun.endF (HandSHeadRun.stepQ (HandSHeadRun.denQ HandSHeadRun.tabQ) R.prog (w.withFollow "special-get-raises" false)) 20000 R.prog (w.withFollow "special-get-raises" false) os).map (fun s => (HandSHeadRun.looksF R.prog (PySem.W.boot_heap (w.withFollow "special-get-raises" false).params) s.abs, HandSHeadRun.seenQ qv names (importedModules R.prog.main.body) (fun s => PySem.W.xlAt qv [] s && PySem.W.recOk R.toRowW.records s) s.abs)) = some (true, PySem.W.openGood qv names) := by
  kernel_rfl
theorem toldA (w : World) (os : OsState) : (HandSHeadRun.endF (HandSHeadRun.stepQ (HandSHeadRun.denQ HandSHeadRun.tabQ) R.prog (w.withFollow "special-get-raises" false)) 20000 R.prog (w.withFollow "special-get-raises" false) os).map ob = some (hk.val (w.withFollow "special-get-raises" false)) := by
  kernel_rfl
theorem seenB (w : World) (os : OsState) : (HandSHeadRun.endF (HandSHeadRun.stepQ (HandSHeadRun.denQ HandSHeadRun.tabQ) R.prog (w.withFollow "special-get-raises" true)) 20000 R.prog (w.withFollow "special-get-raises" true) os).map (fun s => (HandSHeadRun.looksF R.prog (PySem.W.boot_heap (w.withFollow "special-get-raises" true).params) s.abs, HandSHeadRun.seenQ qv names (importedModules R.prog.main.body) (fun s => PySem.W.xlAt qv [] s && PySem.W.recOk R.toRowW.records s) s.abs)) = some (true, PySem.W.openGood qv names) := by
  kernel_rfl
theorem toldB (w : World) (os : OsState) : (HandSHeadRun.endF (HandSHeadRun.stepQ (HandSHeadRun.denQ HandSHeadRun.tabQ) R.prog (w.withFollow "special-get-raises" true)) 20000 R.prog (w.withFollow "special-get-raises" true) os).map ob = some (hk.val (w.withFollow "special-get-raises" true)) := by
  kernel_rfl
theorem run (w : World) : HandSHeadRun.RunEq R qv hk ob 20000 names w := PySem.W.byRow2 (P := fun w => HandSHeadRun.RunEq R qv hk ob 20000 names w) "special-get-raises" (fun w => run_two (seenA w) (toldA w)) (fun w => run_two (seenB w) (toldB w)) w
end Hd
section
open PySem PySem.W PyProof.Rows
theorem Hd.top (call : WalkO Hd.qv Hd.names (XL Hd.qv []) Hd.hk.says Hd.R.toRowW (HandSHeadRun.topDef Hd.R.prog 73) [] fun f vs => PySem.call f vs) : PySem.Challenge.rw_leasefiles_k02_whole_edits_of_texts.Holds := by
  w_on; o_law
  refine HandSHeadRun.head_any (r := OpenLaw.row PySem.Challenge.rw_leasefiles_k02_whole_edits_of_texts) (q := view (OpenLaw.row PySem.Challenge.rw_leasefiles_k02_whole_edits_of_texts).prog [73]) (H := Hd.hk) (ob := Hd.ob) (M := 20000) (loose := Hd.names) (d := HandSHeadRun.topDef (OpenLaw.row PySem.Challenge.rw_leasefiles_k02_whole_edits_of_texts).prog 73) (kwd := []) Hd.ob_eq (by kernel_rfl) (fun s => by kernel_rfl) Hd.run (by kernel_rfl) (by kernel_rfl) (by kernel_rfl) (by rfl) (by first | assumption | decide +kernel) (by decide +kernel) ⟨rfl, rfl, rfl, rfl, rfl, by decide +kernel⟩ ?hw call
  case hw => w_witness2
end
set_option Elab.async false
set_option linter.all false
set_option maxRecDepth 100000
set_option maxHeartbeats 4000000
namespace L2
open PySem PySem.Spec PyProof.Rows
/-- at e: an exception of the class at C that is a value; its arguments are the tuple at t -/
def exoT (e C t : Addr) : HO := .ext fun h => h.get? e = some ({ cls := .ref C, dict := none, data := .fields #[.ref t, .none, .none, .none, .bool false, .none] } : Obj)
theorem exoT_at {P : Program} {w : World} {H : Hp} {h : Heap} {e C t : Addr} (hok : HOk P w H h) (he : H e = some (exoT e C t)) : h.get? e = some ({ cls := .ref C, dict := none, data := .fields #[.ref t, .none, .none, .none, .bool false, .none] } : Obj) := by
  have x : ObjOk P w H h e (.ext fun h => h.get? e = some ({ cls := .ref C, dict := none, data := .fields #[.ref t, .none, .none, .none, .bool false, .none] } : Obj)) := hok e _ he
  exact x.1
theorem exoT_ok {P : Program} {w : World} {H : Hp} {h : Heap} {e C t : Addr} (he : h.get? e = some ({ cls := .ref C, dict := none, data := .fields #[.ref t, .none, .none, .none, .bool false, .none] } : Obj)) : ObjOk P w H h e (exoT e C t) :=
  ⟨he, ⟨_, he⟩, fun h1 h2 z k => k _ z⟩
/-- what the written part says of an exception class whose errors are told as values; x: its name -/
structure ExcQ (K : PySem.W.Frag) (C : Addr) (x : Str) : Prop where
  is_ : ExcC K C
  no : ∀ T ∈ (["int", "bool", "str", "tuple", "list"] : List String), PySem.W.kitOne K (.ref C) (.type T) = some false
  nm : (PySem.W.clsIn K C).map (·.name) = some x
end L2
namespace Dl
open PySem PySem.Spec PyProof.Rows L2
/-- a value as it is told: data, or a raw value (a def, a class, a mutable object) -/
inductive EV where
  | d (x : PyData)
  | r (v : V)
  | rl (vs : List V)
  | rL (vs : List V)
  | kt (ks : List Key)
  | kl (kss : List (List Key))
def kd : Key → PyData
  | .inl i => .int i
  | .inr x => .str x
mutual
inductive Dp (K : PySem.W.Frag) (H : Hp) : V → PyData → Prop
  | non : Dp K H .non .none
  | bl (b : Bool) : Dp K H (.bl b) (.bool b)
  | int (i : Int) : Dp K H (.int i) (.int i)
  | str (x : Str) : Dp K H (.str x) (.str x)
  | lst {a : Addr} {xs : List V} {ds : List PyData} : SqL K H a xs → DpAll K H xs ds → Dp K H (.ref a) (.list ds)
  | tup {a : Addr} {xs : List V} {ds : List PyData} : SqT K H a xs → DpAll K H xs ds → Dp K H (.ref a) (.tuple ds)
  | exc {a C t : Addr} {x : Str} : ExcQ K C x → H a = some (exoT a C t) → H t = some (.tup []) → Dp K H (.ref a) (.dict [(.none, .str x)])
  | dct {a : Addr} {es : List (Key × V)} {kvs : List (PyData × PyData)} : H a = some (.dK es) → kvs.map (·.1) = es.map (kd ·.1) → DpAll K H (es.map (·.2)) (kvs.map (·.2)) → Dp K H (.ref a) (.dict kvs)
inductive DpAll (K : PySem.W.Frag) (H : Hp) : List V → List PyData → Prop
  | nil : DpAll K H [] []
  | cons {v : V} {vs : List V} {d : PyData} {ds : List PyData} : Dp K H v d → DpAll K H vs ds → DpAll K H (v :: vs) (d :: ds)
end
mutual
/-- no dict within -/
def noD : PyData → Bool
  | .list xs => noDAll xs
  | .tuple xs => noDAll xs
  | .dict _ => false
  | _ => true
def noDAll : List PyData → Bool
  | [] => true
  | x :: xs => noD x && noDAll xs
end
mutual
theorem Dp.kit {K : PySem.W.Frag} {H : Hp} : ∀ {d : PyData} {v : V}, noD d = true → Dp K H v d → L2.Dp K H v d
  | .none, _, _, h => by cases h; exact .non
  | .bool b, _, _, h => by cases h; exact .bl b
  | .int i, _, _, h => by cases h; exact .int i
  | .str x, _, _, h => by cases h; exact .str x
  | .list ds, _, p, h => by
    rw [noD] at p
    cases h with
    | lst h1 h2 => exact .lst h1 (DpAll.kit p h2)
  | .tuple ds, _, p, h => by
    rw [noD] at p
    cases h with
    | tup h1 h2 => exact .tup h1 (DpAll.kit p h2)
  | .dict _, _, p, h => by rw [noD] at p; cases p
theorem DpAll.kit {K : PySem.W.Frag} {H : Hp} : ∀ {ds : List PyData} {vs : List V}, noDAll ds = true → DpAll K H vs ds → L2.DpAll K H vs ds
  | [], _, _, h => by cases h; exact .nil
  | d :: ds, _, p, h => by
    rw [noDAll, Bool.and_eq_true] at p
    cases h with
    | cons h1 h2 => exact .cons (Dp.kit p.1 h1) (DpAll.kit p.2 h2)
end
theorem Dp.reads {X : Cx} {pins : List (Addr × Obj)} {σ : L2.St} {H : Hp} {s : Shared} (I : Inv X pins σ H s) (d : PyData) (v : V) (u : Value) (p : noD d = true) (h : Dp X.K H v d) (r : RelV v u) : ∃ as, Reads s.heap u d as := L2.Dp.reads I d v u (h.kit p) r
def Ex (H H' : Hp) : Prop := ∀ a o, H a = some o → H' a = some o
theorem Ex.refl (H : Hp) : Ex H H := fun _ _ h => h
theorem Ex.trans {H H1 H2 : Hp} (a : Ex H H1) (b : Ex H1 H2) : Ex H H2 := fun x o h => b x o (a x o h)
theorem Ex.new {H : Hp} {p : Addr} {o : HO} (h : H p = none) : Ex H (upd H p o) := fun a u e => by
  rw [upd_ne (ne_of_none e h)]; exact e
theorem Ex.seqL {K : PySem.W.Frag} {H H' : Hp} {a : Addr} {xs : List V} (e : Ex H H') (h : SqL K H a xs) : SqL K H' a xs := Same.seq e h
theorem Ex.seqT {K : PySem.W.Frag} {H H' : Hp} {a : Addr} {xs : List V} (e : Ex H H') (h : SqT K H a xs) : SqT K H' a xs := by
  rcases h with (h | ⟨o, h⟩) | h
  · exact .inl (.inl (e _ _ h))
  · exact .inl (.inr ⟨o, e _ _ h⟩)
  · exact .inr h
mutual
theorem dp_monoR {K : PySem.W.Frag} {H H' : Hp} (e : Ex H H') {d : PyData} {v : V} : Dp K H v d → Dp K H' v d
  | .non => .non
  | .bl b => .bl b
  | .int i => .int i
  | .str x => .str x
  | .lst h1 h2 => .lst (e.seqL h1) (dpAll_monoR e h2)
  | .tup h1 h2 => .tup (e.seqT h1) (dpAll_monoR e h2)
  | .exc q h1 h2 => .exc q (e _ _ h1) (e _ _ h2)
  | .dct h1 h2 h3 => .dct (e _ _ h1) h2 (dpAll_monoR e h3)
theorem dpAll_monoR {K : PySem.W.Frag} {H H' : Hp} (e : Ex H H') {ds : List PyData} {vs : List V} : DpAll K H vs ds → DpAll K H' vs ds
  | .nil => .nil
  | .cons h1 h2 => .cons (dp_monoR e h1) (dpAll_monoR e h2)
end
theorem dp_mono {K : PySem.W.Frag} {H H' : Hp} (e : Ex H H') (d : PyData) (v : V) (h : Dp K H v d) : Dp K H' v d := dp_monoR e h
theorem dpAll_mono {K : PySem.W.Frag} {H H' : Hp} (e : Ex H H') (ds : List PyData) (vs : List V) (h : DpAll K H vs ds) : DpAll K H' vs ds := dpAll_monoR e h
theorem dpAll_len {K : PySem.W.Frag} {H : Hp} : ∀ {ds : List PyData} {vs : List V}, DpAll K H vs ds → vs.length = ds.length
  | [], _, h => by cases h; rfl
  | d :: ds, _, h => by
    cases h with
    | cons _ h2 => simp [dpAll_len h2]
theorem dpAll_get {K : PySem.W.Frag} {H : Hp} : ∀ {ds : List PyData} {vs : List V} {i : Nat} {d : PyData}, DpAll K H vs ds → ds[i]? = some d → ∃ v, vs[i]? = some v ∧ Dp K H v d
  | [], _, _, _, h, e => by simp at e
  | d :: ds, _, 0, _, h, e => by
    cases h with
    | cons h1 h2 => simp at e; subst e; exact ⟨_, rfl, h1⟩
  | d :: ds, _, i + 1, _, h, e => by
    cases h with
    | cons h1 h2 =>
      obtain ⟨v, e1, e2⟩ := dpAll_get (i := i) h2 (by simpa using e)
      exact ⟨v, by simpa using e1, e2⟩
theorem dpAll_append {K : PySem.W.Frag} {H : Hp} : ∀ {ds es : List PyData} {vs ws : List V}, DpAll K H vs ds → DpAll K H ws es → DpAll K H (vs ++ ws) (ds ++ es)
  | [], _, _, _, h, k => by cases h; exact k
  | d :: ds, _, _, _, h, k => by
    cases h with
    | cons h1 h2 => exact .cons h1 (dpAll_append h2 k)
theorem dpAll_take {K : PySem.W.Frag} {H : Hp} : ∀ (n : Nat) {ds : List PyData} {vs : List V}, DpAll K H vs ds → DpAll K H (vs.take n) (ds.take n)
  | 0, _, _, _ => by simpa using DpAll.nil
  | n + 1, [], _, h => by cases h; exact .nil
  | n + 1, d :: ds, _, h => by
    cases h with
    | cons h1 h2 => exact .cons h1 (dpAll_take n h2)
theorem dpAll_drop {K : PySem.W.Frag} {H : Hp} : ∀ (n : Nat) {ds : List PyData} {vs : List V}, DpAll K H vs ds → DpAll K H (vs.drop n) (ds.drop n)
  | 0, _, _, h => h
  | n + 1, [], _, h => by cases h; exact .nil
  | n + 1, d :: ds, _, h => by
    cases h with
    | cons h1 h2 => exact dpAll_drop n h2
theorem dpAll_bls {K : PySem.W.Frag} {H : Hp} : ∀ {bs : List Bool} {vs : List V}, DpAll K H vs (bs.map .bool) → vs = bs.map V.bl
  | [], _, h => by cases h; rfl
  | b :: bs, _, h => by
    cases h with
    | cons h1 h2 => cases h1; rw [dpAll_bls h2]; rfl
theorem dpAll_ints {K : PySem.W.Frag} {H : Hp} : ∀ {ns : List Int} {vs : List V}, DpAll K H vs (ns.map .int) → vs = ns.map V.int
  | [], _, h => by cases h; rfl
  | b :: bs, _, h => by
    cases h with
    | cons h1 h2 => cases h1; rw [dpAll_ints h2]; rfl
theorem dpAll_strs {K : PySem.W.Frag} {H : Hp} : ∀ {ns : List Str} {vs : List V}, DpAll K H vs (ns.map .str) → vs = ns.map V.str
  | [], _, h => by cases h; rfl
  | b :: bs, _, h => by
    cases h with
    | cons h1 h2 => cases h1; rw [dpAll_strs h2]; rfl
theorem dpAll_ofInts {K : PySem.W.Frag} {H : Hp} : ∀ (ns : List Int), DpAll K H (ns.map V.int) (ns.map .int)
  | [] => .nil
  | n :: ns => .cons (.int n) (dpAll_ofInts ns)
theorem pairedKt_mono {I I' : Hp} (x : Ex I I') : ∀ {bs : List Addr} {kss : List (List Key)}, Paired (fun b ks => I b = some (.tup (ks.map kV))) bs kss → Paired (fun b ks => I' b = some (.tup (ks.map kV))) bs kss
  | _, _, .nil => .nil
  | _, _, .cons h t => .cons (x _ _ h) (pairedKt_mono x t)
def RelE (K : PySem.W.Frag) (I : Hp) (v : V) : EV → Prop
  | .d x => Dp K I v x
  | .r w => v = w
  | .rl vs => ∃ a, v = .ref a ∧ (SqL K I a vs ∨ SqT K I a vs)
  | .rL vs => ∃ a, v = .ref a ∧ SqL K I a vs
  | .kt ks => ∃ b, v = .ref b ∧ I b = some (.tup (ks.map kV))
  | .kl kss => ∃ (a : Addr) (bs : List Addr), v = .ref a ∧ SqL K I a (bs.map V.ref) ∧ Paired (fun b ks => I b = some (.tup (ks.map kV))) bs kss
theorem RelE.mono {K : PySem.W.Frag} {I I' : Hp} {v : V} {e : EV} (x : Ex I I') (h : RelE K I v e) : RelE K I' v e := by
  cases e with
  | d d => exact dp_mono x d v h
  | r w => exact h
  | rl vs => exact let ⟨a, e, q⟩ := h; ⟨a, e, q.imp x.seqL x.seqT⟩
  | rL vs => exact let ⟨a, e, q⟩ := h; ⟨a, e, x.seqL q⟩
  | kt ks => exact let ⟨b, e, q⟩ := h; ⟨b, e, x _ _ q⟩
  | kl kss => exact let ⟨a, bs, e, q, t⟩ := h; ⟨a, bs, e, x.seqL q, pairedKt_mono x t⟩
/-- a context: the written part, the ghost state, which addresses are mutable in it, what holds of them -/
structure Ctx where
  K : PySem.W.Frag
  S : Type
  M : S → Addr → Prop
  J : S → Hp → Hp → Prop
  jm : ∀ g I I' H H', J g I H → Ex I I' → (∀ a, M g a → H' a = H a) → J g I' H'
  mh : ∀ g I H a, J g I H → M g a → H a ≠ none
structure Ok (c : Ctx) (I H : Hp) (g : c.S) : Prop where
  ex : Ex I H
  j : c.J g I H
  out : ∀ a, c.M g a → I a = none
def isTupO : HO → Bool | .tup _ => true | _ => false
structure Step (c : Ctx) (I H : Hp) (g : c.S) (I' H' : Hp) (g' : c.S) : Prop where
  im : Ex I I'
  keep : ∀ a o, H a = some o → ¬ c.M g a → H' a = some o
  out : ∀ a o, H a = some o → isTupO o = false → I a = none → ¬ c.M g a → I' a = none
  mm : ∀ a, c.M g' a → c.M g a ∨ H a = none
  there : ∀ a, H a ≠ none → H' a ≠ none
section
variable {c : Ctx} {I H I1 H1 I2 H2 : Hp} {g g1 g2 : c.S}
theorem Step.refl : Step c I H g I H g := ⟨Ex.refl _, fun _ _ h _ => h, fun _ _ _ _ h _ => h, fun _ h => .inl h, fun _ h => h⟩
theorem Step.trans (a : Step c I H g I1 H1 g1) (b : Step c I1 H1 g1 I2 H2 g2) : Step c I H g I2 H2 g2 where
  im := a.im.trans b.im
  keep := fun x o h n => b.keep x o (a.keep x o h n) fun m => by
    rcases a.mm x m with q | q
    · exact n q
    · rw [q] at h; cases h
  out := fun x o h t n m => b.out x o (a.keep x o h m) t (a.out x o h t n m) fun m1 => (a.mm x m1).elim m fun e => by rw [h] at e; cases e
  mm := fun x m => by
    rcases b.mm x m with q | q
    · exact a.mm x q
    · refine .inr ?_
      cases e : H x with
      | none => rfl
      | some o => exact absurd q (a.there x (by rw [e]; simp))
  there := fun x h => b.there x (a.there x h)
/-- the heap has grown by an object that is not told as data -/
theorem Ok.grow (k : Ok c I H g) {p : Addr} {o : HO} (hp : H p = none) : Ok c I (upd H p o) g :=
  ⟨k.ex.trans (Ex.new hp), c.jm g I I H _ k.j (Ex.refl I) fun a m => upd_ne (fun e => c.mh g I H a k.j m (by rw [e]; exact hp)), k.out⟩
theorem Step.grow {p : Addr} {o : HO} (hp : H p = none) : Step c I H g I (upd H p o) g :=
  ⟨Ex.refl _, fun a u h _ => by rw [upd_ne (ne_of_none h hp)]; exact h, fun _ _ _ _ h _ => h, fun _ h => .inl h, fun a h => by
    by_cases e : a = p
    · exact absurd hp (by rw [← e]; exact h)
    · rw [upd_ne e]; exact h⟩
/-- the immutable part takes in a new object -/
theorem Ok.new (k : Ok c I H g) {p : Addr} {o : HO} (hp : H p = none) : Ok c (upd I p o) (upd H p o) g :=
  ⟨fun a u e => by
    by_cases z : a = p
    · rw [z, upd_same] at e ⊢; exact e
    · rw [upd_ne z] at e ⊢; exact k.ex a u e, c.jm g I _ H _ k.j (Ex.new (by
    cases e : I p with
    | none => rfl
    | some o => rw [k.ex p o e] at hp; cases hp)) fun a m => upd_ne (fun e => c.mh g I H a k.j m (by rw [e]; exact hp)), fun a m => by
    have ne : a ≠ p := fun e => c.mh g I H a k.j m (by rw [e]; exact hp)
    rw [upd_ne ne]; exact k.out a m⟩
theorem Ok.free (k : Ok c I H g) {p : Addr} (hp : H p = none) : I p = none := by
  cases e : I p with
  | none => rfl
  | some o => rw [k.ex p o e] at hp; cases hp
theorem Step.new (k : Ok c I H g) {p : Addr} {o : HO} (hp : H p = none) : Step c I H g (upd I p o) (upd H p o) g :=
  ⟨Ex.new (k.free hp), (Step.grow (c := c) (I := I) (g := g) hp).keep, fun a o h _ n _ => by
    have ne : a ≠ p := fun e => by rw [e, hp] at h; cases h
    rw [upd_ne ne]; exact n, fun _ h => .inl h, (Step.grow (c := c) (o := o) (I := I) (g := g) hp).there⟩
/-- an object that stands already and is not mutable here comes to the immutable part -/
theorem dp_of (k : Ok c I H g) {d : PyData} {v : V} (h : Dp c.K I v d) : Dp c.K H v d := dp_mono k.ex d v h
end
/-- the slots as they are told -/
abbrev Rho := List (Option EV)
def EnvOk (K : PySem.W.Frag) (I : Hp) (σ : L2.St) (ρ : Rho) : Prop := σ.length = ρ.length ∧ ∀ (i : Nat) (e : EV), ρ[i]? = some (some e) → ∃ v, σ[i]? = some (some v) ∧ RelE K I v e
theorem EnvOk.mono {K : PySem.W.Frag} {I I' : Hp} {σ : L2.St} {ρ : Rho} (x : Ex I I') (h : EnvOk K I σ ρ) : EnvOk K I' σ ρ :=
  ⟨h.1, fun i e q => let ⟨v, a, b⟩ := h.2 i e q; ⟨v, a, b.mono x⟩⟩
theorem EnvOk.set {K : PySem.W.Frag} {I : Hp} {σ : L2.St} {ρ : Rho} (h : EnvOk K I σ ρ) (i : Nat) {v : V} {e : EV} (r : RelE K I v e) : EnvOk K I (σ.set i (some v)) (ρ.set i (some e)) := by
  refine ⟨by simp [h.1], fun j f q => ?_⟩
  by_cases z : i = j
  · subst z
    have hl : i < ρ.length := by
      have := (List.getElem?_eq_some_iff.mp q).1
      simpa using this
    rw [List.getElem?_set_self hl] at q
    cases q
    exact ⟨v, by rw [List.getElem?_set_self (by rw [h.1]; exact hl)], r⟩
  · rw [List.getElem?_set_ne z] at q ⊢
    exact h.2 j f q
theorem EnvOk.wipe {K : PySem.W.Frag} {I : Hp} {σ : L2.St} {ρ : Rho} : ∀ (vs : List Nat), EnvOk K I σ ρ → EnvOk K I (wipe σ vs) (vs.foldr (fun i r => r.set i none) ρ) := by
  intro vs
  induction vs with
  | nil => exact id
  | cons i vs ih =>
    intro h
    have q := ih h
    refine ⟨by rw [wipe_length]; simp only [List.foldr_cons, List.length_set]; rw [← q.1, wipe_length], fun j f e => ?_⟩
    simp only [List.foldr_cons] at e
    by_cases z : i = j
    · subst z
      have hl : i < (vs.foldr (fun i r => r.set i none) ρ).length := by
        have := (List.getElem?_eq_some_iff.mp e).1
        simpa using this
      rw [List.getElem?_set_self hl] at e
      cases e
    · rw [List.getElem?_set_ne z] at e
      unfold L2.wipe
      rw [List.getElem?_set_ne z]
      exact q.2 j f e
def wipeR (ρ : Rho) (vs : List Nat) : Rho := vs.foldr (fun i r => r.set i none) ρ
section
variable (c : Ctx)
/-- the end of an expression -/
def End (I H : Hp) (g : c.S) (P : EV → c.S → Prop) (Q : VK) : Prop := ∀ v I' H' g' e, Step c I H g I' H' g' → Ok c I' H' g' → RelE c.K I' v e → P e g' → Q v H'
def PV (te : TE) (ρ : Rho) (g : c.S) (P : EV → c.S → Prop) : Prop := ∀ σ I H, Ok c I H g → EnvOk c.K I σ ρ → ∀ Q : VK, End c I H g P Q → te σ H Q
def PB (t : TT) (ρ : Rho) (g : c.S) (P : Bool → c.S → Prop) : Prop := ∀ σ I H, Ok c I H g → EnvOk c.K I σ ρ → ∀ Q : Bool → Hp → Prop, (∀ b I' H' g', Step c I H g I' H' g' → Ok c I' H' g' → P b g' → Q b H') → t σ H Q
def PAs (t : TA) (ρ : Rho) (g : c.S) (P : List EV → c.S → Prop) : Prop := ∀ σ I H, Ok c I H g → EnvOk c.K I σ ρ → ∀ Q : List V → Hp → Prop, (∀ vs I' H' g' es, Step c I H g I' H' g' → Ok c I' H' g' → Paired (RelE c.K I') vs es → P es g' → Q vs H') → t σ H Q
def PPart (t : TO) (ρ : Rho) (g : c.S) (P : Option Int → c.S → Prop) : Prop := ∀ σ I H, Ok c I H g → EnvOk c.K I σ ρ → ∀ Q : Option Int → Hp → Prop, (∀ o I' H' g', Step c I H g I' H' g' → Ok c I' H' g' → P o g' → Q o H') → t σ H Q
/-- an operation on two told values -/
def O2 (r : R2) (x y : EV) (g : c.S) (P : EV → c.S → Prop) : Prop := ∀ I H xv yv, Ok c I H g → RelE c.K I xv x → RelE c.K I yv y → ∀ Q : VK, End c I H g P Q → r xv yv H Q
def O1 (r : V → Hp → VK → Prop) (x : EV) (g : c.S) (P : EV → c.S → Prop) : Prop := ∀ I H xv, Ok c I H g → RelE c.K I xv x → ∀ Q : VK, End c I H g P Q → r xv H Q
def OC (r : List V → Hp → VK → Prop) (es : List EV) (g : c.S) (P : EV → c.S → Prop) : Prop := ∀ I H vs, Ok c I H g → Paired (RelE c.K I) vs es → ∀ Q : VK, End c I H g P Q → r vs H Q
def OSl (r : V → Option Int → Option Int → Hp → VK → Prop) (x : EV) (lo hi : Option Int) (g : c.S) (P : EV → c.S → Prop) : Prop := ∀ I H xv, Ok c I H g → RelE c.K I xv x → ∀ Q : VK, End c I H g P Q → r xv lo hi H Q
end
section
variable {c : Ctx} {ρ : Rho} {g : c.S} {P P' : EV → c.S → Prop} {te ta tb tc : TE} {t u : TT} {I H : Hp} {Q : VK}
theorem Paired.relMono {K : PySem.W.Frag} {I I' : Hp} (x : Ex I I') : ∀ {vs : List V} {es : List EV}, Paired (RelE K I) vs es → Paired (RelE K I') vs es
  | _, _, .nil => .nil
  | _, _, .cons h t => .cons (h.mono x) (Paired.relMono x t)
theorem End.here (k : End c I H g P Q) (ok : Ok c I H g) {v : V} {e : EV} (r : RelE c.K I v e) (p : P e g) : Q v H := k v I H g e Step.refl ok r p
theorem End.step {I' H' : Hp} {g' : c.S} (k : End c I H g P Q) (s : Step c I H g I' H' g') (h : ∀ e g2, P' e g2 → P e g2) : End c I' H' g' P' Q :=
  fun v I2 H2 g2 e s2 ok r p => k v I2 H2 g2 e (s.trans s2) ok r (h e g2 p)
theorem PV.imp (h : PV c te ρ g P') (i : ∀ e g2, P' e g2 → P e g2) : PV c te ρ g P := fun σ I H ok en Q k => h σ I H ok en Q fun v I' H' g' e s ok' r p => k v I' H' g' e s ok' r (i e g' p)
theorem PB.imp {P P' : Bool → c.S → Prop} (h : PB c t ρ g P') (i : ∀ e g2, P' e g2 → P e g2) : PB c t ρ g P := fun σ I H ok en Q k => h σ I H ok en Q fun v I' H' g' s ok' p => k v I' H' g' s ok' (i v g' p)
theorem pv_var {i : Nat} {e : EV} (h : ρ[i]? = some (some e)) (p : P e g) : PV c (tVar i) ρ g P := fun σ I H ok en Q k => by
  obtain ⟨v, e1, r⟩ := en.2 i e h
  exact ⟨v, e1, k.here ok r p⟩
theorem pv_int {i : Int} (p : P (.d (.int i)) g) : PV c (tC (.int i)) ρ g P := fun σ I H ok en Q k => k.here (e := .d (.int i)) ok (Dp.int i) p
theorem pv_bl {b : Bool} (p : P (.d (.bool b)) g) : PV c (tC (.bl b)) ρ g P := fun σ I H ok en Q k => k.here (e := .d (.bool b)) ok (Dp.bl b) p
theorem pv_non (p : P (.d .none) g) : PV c (tC .non) ρ g P := fun σ I H ok en Q k => k.here (e := .d .none) ok Dp.non p
theorem pv_str {x : Str} (p : P (.d (.str x)) g) : PV c (tC (.str x)) ρ g P := fun σ I H ok en Q k => k.here (e := .d (.str x)) ok (Dp.str x) p
theorem pv_raw {v : V} (p : P (.r v) g) : PV c (tC v) ρ g P := fun σ I H ok en Q k => k.here (e := .r v) ok rfl p
/-- a constant of the module that is data -/
theorem pv_const {v : V} {d : PyData} (h : ∀ I, Dp c.K I v d) (p : P (.d d) g) : PV c (tC v) ρ g P := fun σ I H ok en Q k => k.here (e := .d d) ok (h I) p
theorem pv_op {r : R2} (h : PV c ta ρ g fun x g1 => PV c tb ρ g1 fun y g2 => O2 c r x y g2 P) : PV c (tOp r ta tb) ρ g P := fun σ I H ok en Q k =>
  h σ I H ok en _ fun v I1 H1 g1 x s1 ok1 r1 p1 => p1 σ I1 H1 ok1 (en.mono s1.im) _ fun u I2 H2 g2 y s2 ok2 r2 p2 =>
    p2 I2 H2 v u ok2 (r1.mono s2.im) r2 Q fun z I3 H3 g3 e s3 ok3 r3 p3 => k z I3 H3 g3 e ((s1.trans s2).trans s3) ok3 r3 p3
theorem pv_un {r : V → Hp → VK → Prop} (h : PV c ta ρ g fun x g1 => O1 c r x g1 P) : PV c (tUn r ta) ρ g P := fun σ I H ok en Q k =>
  h σ I H ok en _ fun v I1 H1 g1 x s1 ok1 r1 p1 => p1 I1 H1 v ok1 r1 Q fun z I3 H3 g3 e s3 ok3 r3 p3 => k z I3 H3 g3 e (s1.trans s3) ok3 r3 p3
theorem pas_nil {P : List EV → c.S → Prop} (p : P [] g) : PAs c tNil ρ g P := fun σ I H ok en Q k => k [] I H g [] Step.refl ok .nil p
theorem pas_cons {P : List EV → c.S → Prop} {tr : TA} (h : PV c ta ρ g fun x g1 => PAs c tr ρ g1 fun es g2 => P (x :: es) g2) : PAs c (tCons ta tr) ρ g P := fun σ I H ok en Q k =>
  h σ I H ok en _ fun v I1 H1 g1 x s1 ok1 r1 p1 => p1 σ I1 H1 ok1 (en.mono s1.im) _ fun us I2 H2 g2 es s2 ok2 r2 p2 => k (v :: us) I2 H2 g2 (x :: es) (s1.trans s2) ok2 (.cons (r1.mono s2.im) r2) p2
/-- all told values are data -/
def allD : List EV → Option (List PyData)
  | [] => some []
  | .d x :: r => (allD r).map (x :: ·)
  | .r _ :: _ => none
  | .rl _ :: _ => none
  | .rL _ :: _ => none
  | .kt _ :: _ => none
  | .kl _ :: _ => none
/-- all told values are raw -/
def allR : List EV → Option (List V)
  | [] => some []
  | .r x :: r => (allR r).map (x :: ·)
  | .d _ :: _ => none
  | .rl _ :: _ => none
  | .rL _ :: _ => none
  | .kt _ :: _ => none
  | .kl _ :: _ => none
theorem allR_rel {K : PySem.W.Frag} {I : Hp} : ∀ {es : List EV} {vs ds : List V}, Paired (RelE K I) vs es → allR es = some ds → vs = ds := by
  intro es
  induction es with
  | nil => intro vs ds h e; cases h; cases e; rfl
  | cons x es ih =>
    intro vs ds h e
    cases h with
    | cons h t =>
      cases x with
      | r x =>
        simp only [allR] at e
        cases q : allR es with
        | none => rw [q] at e; cases e
        | some l =>
          rw [q] at e
          cases e
          rw [show _ = x from h, ih t q]
      | d x => simp [allR] at e
      | rl x => simp [allR] at e
      | rL x => simp [allR] at e
      | kt x => simp [allR] at e
      | kl x => simp [allR] at e
theorem allD_rel {K : PySem.W.Frag} {I : Hp} : ∀ {es : List EV} {vs : List V} {ds : List PyData}, Paired (RelE K I) vs es → allD es = some ds → DpAll K I vs ds := by
  intro es
  induction es with
  | nil => intro vs ds h e; cases h; cases e; exact .nil
  | cons x es ih =>
    intro vs ds h e
    cases h with
    | cons h t =>
      cases x with
      | d x =>
        simp only [allD] at e
        cases q : allD es with
        | none => rw [q] at e; cases e
        | some l =>
          rw [q] at e
          cases e
          exact .cons h (ih t q)
      | r x => simp [allD] at e
      | rl x => simp [allD] at e
      | rL x => simp [allD] at e
      | kt x => simp [allD] at e
      | kl x => simp [allD] at e
theorem pv_tup {tl : TA} (h : PAs c tl ρ g fun es g1 => ∃ ds, allD es = some ds ∧ ds.length ≤ sizeLine ∧ P (.d (.tuple ds)) g1) : PV c (tTup tl) ρ g P := fun σ I H ok en Q k =>
  h σ I H ok en _ fun vs I1 H1 g1 es s1 ok1 r1 ⟨ds, e1, hz, p1⟩ => by
    have a := allD_rel r1 e1
    refine ⟨by rw [dpAll_len a]; exact hz, fun p hp => k _ (upd I1 p (.tup vs)) (upd H1 p (.tup vs)) g1 (.d (.tuple ds)) (s1.trans (Step.new ok1 hp)) (ok1.new hp) (.tup (.inl (.inl upd_same)) (dpAll_mono (Ex.new (ok1.free hp)) ds vs a)) p1⟩
theorem pv_lst2 {tl : TA} (h : PAs c tl ρ g fun es g1 => (∃ ds, allD es = some ds ∧ ds.length ≤ sizeLine ∧ P (.d (.list ds)) g1) ∨ ∃ ds, allR es = some ds ∧ ds.length ≤ sizeLine ∧ P (.rl ds) g1) : PV c (tLst tl) ρ g P := fun σ I H ok en Q k =>
  h σ I H ok en _ fun vs I1 H1 g1 es s1 ok1 r1 q => by
    rcases q with ⟨ds, e1, hz, p1⟩ | ⟨ds, e1, hz, p1⟩
    · have a := allD_rel r1 e1
      exact ⟨by rw [dpAll_len a]; exact hz, fun p hp => k _ (upd I1 p (.lst vs)) (upd H1 p (.lst vs)) g1 (.d (.list ds)) (s1.trans (Step.new ok1 hp)) (ok1.new hp) (.lst (.inl (.inl upd_same)) (dpAll_mono (Ex.new (ok1.free hp)) ds vs a)) p1⟩
    · have a := allR_rel r1 e1
      subst a
      exact ⟨hz, fun p hp => k _ (upd I1 p (.lst vs)) (upd H1 p (.lst vs)) g1 (.rl vs) (s1.trans (Step.new ok1 hp)) (ok1.new hp) ⟨p, rfl, .inl (.inl (.inl upd_same))⟩ p1⟩
theorem pb_test' {P : Bool → c.S → Prop} (h : PV c te ρ g fun e g1 => ∃ b, e = .d (.bool b) ∧ P b g1) : PB c (tTest te) ρ g P := fun σ I H ok en Q k =>
  h σ I H ok en _ fun v I1 H1 g1 e s1 ok1 r1 ⟨b, e1, p1⟩ => by
    subst e1
    cases r1
    exact ⟨b, rfl, k b I1 H1 g1 s1 ok1 p1⟩
theorem pb_B {P : Bool → c.S → Prop} (h : PV c te ρ g fun e g1 => ∃ b, e = .d (.bool b) ∧ P b g1) : PB c (tB te) ρ g P := fun σ I H ok en Q k =>
  h σ I H ok en _ fun v I1 H1 g1 e s1 ok1 r1 ⟨b, e1, p1⟩ => by
    subst e1
    cases r1
    exact ⟨b, rfl, k b I1 H1 g1 s1 ok1 p1⟩
theorem pb_not {P : Bool → c.S → Prop} (h : PB c t ρ g fun b g1 => P (!b) g1) : PB c (tNot t) ρ g P := fun σ I H ok en Q k =>
  h σ I H ok en _ fun b I1 H1 g1 s1 ok1 p1 => k (!b) I1 H1 g1 s1 ok1 p1
theorem pb_and {P : Bool → c.S → Prop} (h : PB c t ρ g fun b g1 => if b = true then PB c u ρ g1 P else P false g1) : PB c (tAnd t u) ρ g P := fun σ I H ok en Q k =>
  h σ I H ok en _ fun b I1 H1 g1 s1 ok1 p1 => by
    cases b with
    | true => exact p1 σ I1 H1 ok1 (en.mono s1.im) Q fun b2 I2 H2 g2 s2 ok2 p2 => k b2 I2 H2 g2 (s1.trans s2) ok2 p2
    | false => exact k false I1 H1 g1 s1 ok1 p1
theorem pb_or {P : Bool → c.S → Prop} (h : PB c t ρ g fun b g1 => if b = true then P true g1 else PB c u ρ g1 P) : PB c (tOr t u) ρ g P := fun σ I H ok en Q k =>
  h σ I H ok en _ fun b I1 H1 g1 s1 ok1 p1 => by
    cases b with
    | true => exact k true I1 H1 g1 s1 ok1 p1
    | false => exact p1 σ I1 H1 ok1 (en.mono s1.im) Q fun b2 I2 H2 g2 s2 ok2 p2 => k b2 I2 H2 g2 (s1.trans s2) ok2 p2
/-- and, or, not as values: bools -/
theorem pv_and (h : PV c ta ρ g fun e g1 => ∃ b, e = .d (.bool b) ∧ if b = true then PV c tb ρ g1 P else P (.d (.bool false)) g1) : PV c (tAndV ta tb) ρ g P := fun σ I H ok en Q k =>
  h σ I H ok en _ fun v I1 H1 g1 e s1 ok1 r1 ⟨b, e1, p1⟩ => by
    subst e1
    cases r1
    refine ⟨b, rfl, ?_⟩
    cases b with
    | true => exact p1 σ I1 H1 ok1 (en.mono s1.im) Q fun b2 I2 H2 g2 e2 s2 ok2 r2 p2 => k b2 I2 H2 g2 e2 (s1.trans s2) ok2 r2 p2
    | false => exact k _ I1 H1 g1 (.d (.bool false)) s1 ok1 (Dp.bl false) p1
theorem pv_or (h : PV c ta ρ g fun e g1 => ∃ b, e = .d (.bool b) ∧ if b = true then P (.d (.bool true)) g1 else PV c tb ρ g1 P) : PV c (tOrV ta tb) ρ g P := fun σ I H ok en Q k =>
  h σ I H ok en _ fun v I1 H1 g1 e s1 ok1 r1 ⟨b, e1, p1⟩ => by
    subst e1
    cases r1
    refine ⟨b, rfl, ?_⟩
    cases b with
    | true => exact k _ I1 H1 g1 (.d (.bool true)) s1 ok1 (Dp.bl true) p1
    | false => exact p1 σ I1 H1 ok1 (en.mono s1.im) Q fun b2 I2 H2 g2 e2 s2 ok2 r2 p2 => k b2 I2 H2 g2 e2 (s1.trans s2) ok2 r2 p2
theorem pv_not (h : PV c ta ρ g fun e g1 => ∃ b, e = .d (.bool b) ∧ P (.d (.bool (!b))) g1) : PV c (tNotV ta) ρ g P := fun σ I H ok en Q k =>
  h σ I H ok en _ fun v I1 H1 g1 e s1 ok1 r1 ⟨b, e1, p1⟩ => by
    subst e1
    cases r1
    exact ⟨b, rfl, k _ I1 H1 g1 (.d (.bool (!b))) s1 ok1 (Dp.bl _) p1⟩
theorem pv_if (h : PB c t ρ g fun b g1 => if b = true then PV c ta ρ g1 P else PV c tb ρ g1 P) : PV c (tIf t ta tb) ρ g P := fun σ I H ok en Q k =>
  h σ I H ok en _ fun b I1 H1 g1 s1 ok1 p1 => by
    cases b with
    | true => exact p1 σ I1 H1 ok1 (en.mono s1.im) Q fun b2 I2 H2 g2 e2 s2 ok2 r2 p2 => k b2 I2 H2 g2 e2 (s1.trans s2) ok2 r2 p2
    | false => exact p1 σ I1 H1 ok1 (en.mono s1.im) Q fun b2 I2 H2 g2 e2 s2 ok2 r2 p2 => k b2 I2 H2 g2 e2 (s1.trans s2) ok2 r2 p2
theorem pv_chain {r r' : R2} (h : PV c ta ρ g fun x g1 => PV c tb ρ g1 fun y g2 => O2 c r x y g2 fun z g3 => ∃ b, z = .d (.bool b) ∧ if b = true then PV c tc ρ g3 fun w g4 => O2 c r' y w g4 P else P (.d (.bool false)) g3) : PV c (tChain r r' ta tb tc) ρ g P := fun σ I H ok en Q k =>
  h σ I H ok en _ fun v I1 H1 g1 x s1 ok1 r1 p1 => p1 σ I1 H1 ok1 (en.mono s1.im) _ fun u I2 H2 g2 y s2 ok2 r2 p2 =>
    p2 I2 H2 v u ok2 (r1.mono s2.im) r2 _ fun z I3 H3 g3 e s3 ok3 r3 ⟨b, e3, p3⟩ => by
      subst e3
      cases r3
      refine ⟨b, rfl, ?_⟩
      cases b with
      | true =>
        rw [if_pos rfl]
        refine p3 σ I3 H3 ok3 (en.mono ((s1.trans s2).trans s3).im) _ fun w I4 H4 g4 y4 s4 ok4 r4 p4 => ?_
        exact p4 I4 H4 u w ok4 (r2.mono (s3.trans s4).im) r4 Q fun z I5 H5 g5 e s5 ok5 r5 p5 => k z I5 H5 g5 e ((((s1.trans s2).trans s3).trans s4).trans s5) ok5 r5 p5
      | false => exact k _ I3 H3 g3 (.d (.bool false)) ((s1.trans s2).trans s3) ok3 (Dp.bl false) p3
/-- a promise over told values: F tells, of the ghost and the arguments, what holds of every result -/
def SpF (K : PySem.W.Frag) (F : (c : Ctx) → c.S → List EV → (EV → c.S → Prop) → Prop) : Sp := fun vs H Q _ => ∃ (c : Ctx) (I : Hp) (g : c.S) (es : List EV) (P : EV → c.S → Prop), c.K = K ∧ Ok c I H g ∧ Paired (RelE K I) vs es ∧ F c g es P ∧ End c I H g P Q
theorem pv_call {F : (c : Ctx) → c.S → List EV → (EV → c.S → Prop) → Prop} {E : XK} {tl : TA} (h : PAs c tl ρ g fun es g1 => F c g1 es P) : PV c (tCall (SpF c.K F) [] E tl) ρ g P := fun σ I H ok en Q k =>
  h σ I H ok en _ fun vs I1 H1 g1 es s1 ok1 r1 p1 => by
    show SpF c.K F (vs ++ []) H1 Q E
    rw [List.append_nil]
    exact ⟨c, I1, g1, es, P, rfl, ok1, r1, p1, fun v I2 H2 g2 e s2 ok2 r2 p2 => k v I2 H2 g2 e (s1.trans s2) ok2 r2 p2⟩
theorem pv_cb {r : List V → Hp → VK → Prop} {tl : TA} (h : PAs c tl ρ g fun es g1 => OC c r es g1 P) : PV c (tCB r tl) ρ g P := fun σ I H ok en Q k =>
  h σ I H ok en _ fun vs I1 H1 g1 es s1 ok1 r1 p1 => p1 I1 H1 vs ok1 r1 Q fun v I2 H2 g2 e s2 ok2 r2 p2 => k v I2 H2 g2 e (s1.trans s2) ok2 r2 p2
theorem pp_none {P : Option Int → c.S → Prop} (p : P none g) : PPart c tNoPart ρ g P := fun σ I H ok en Q k => k none I H g Step.refl ok p
theorem pp_some {P : Option Int → c.S → Prop} (h : PV c te ρ g fun e g1 => ∃ i, e = .d (.int i) ∧ P (some i) g1) : PPart c (tPart te) ρ g P := fun σ I H ok en Q k =>
  h σ I H ok en _ fun v I1 H1 g1 e s1 ok1 r1 ⟨i, e1, p1⟩ => by
    subst e1
    cases r1
    exact ⟨i, rfl, k (some i) I1 H1 g1 s1 ok1 p1⟩
theorem pv_sl {r : V → Option Int → Option Int → Hp → VK → Prop} {tl th : TO} (h : PV c te ρ g fun x g1 => PPart c tl ρ g1 fun lo g2 => PPart c th ρ g2 fun hi g3 => OSl c r x lo hi g3 P) : PV c (tSl r te tl th) ρ g P := fun σ I H ok en Q k =>
  h σ I H ok en _ fun v I1 H1 g1 x s1 ok1 r1 p1 => p1 σ I1 H1 ok1 (en.mono s1.im) _ fun lo I2 H2 g2 s2 ok2 p2 => p2 σ I2 H2 ok2 (en.mono (s1.trans s2).im) _ fun hi I3 H3 g3 s3 ok3 p3 =>
    p3 I3 H3 v ok3 (r1.mono (s2.trans s3).im) Q fun z I4 H4 g4 e s4 ok4 r4 p4 => k z I4 H4 g4 e (((s1.trans s2).trans s3).trans s4) ok4 r4 p4
end
section
variable (c : Ctx)
def PSt (t : TS) (ρ : Rho) (g : c.S) (Pn : Rho → c.S → Prop) (Pr : EV → c.S → Prop) : Prop := ∀ σ I H, Ok c I H g → EnvOk c.K I σ ρ → ∀ D : Ends,
  (∀ σ' I' H' g' ρ', Step c I H g I' H' g' → Ok c I' H' g' → EnvOk c.K I' σ' ρ' → Pn ρ' g' → D.nx σ' H') → End c I H g Pr D.rt → t D σ H
end
section
variable {c : Ctx} {ρ : Rho} {g : c.S} {Pn : Rho → c.S → Prop} {Pr : EV → c.S → Prop} {te ta tb : TE} {t u : TS} {tc : TT}
theorem ps_seq (h : PSt c t ρ g (fun ρ1 g1 => PSt c u ρ1 g1 Pn Pr) Pr) : PSt c (tSeq t u) ρ g Pn Pr := fun σ I H ok en D kn kr =>
  h σ I H ok en { D with nx := u D } (fun σ1 I1 H1 g1 ρ1 s1 ok1 en1 p1 => p1 σ1 I1 H1 ok1 en1 D (fun σ2 I2 H2 g2 ρ2 s2 ok2 en2 p2 => kn σ2 I2 H2 g2 ρ2 (s1.trans s2) ok2 en2 p2) fun v I2 H2 g2 e s2 ok2 r2 p2 => kr v I2 H2 g2 e (s1.trans s2) ok2 r2 p2) kr
theorem ps_next (p : Pn ρ g) : PSt c tNext ρ g Pn Pr := fun σ I H ok en D kn kr => kn σ I H g ρ Step.refl ok en p
theorem ps_ret (h : PV c te ρ g Pr) : PSt c (tRet te) ρ g Pn Pr := fun σ I H ok en D kn kr => h σ I H ok en D.rt kr
theorem ps_set {i : Nat} (h : PV c te ρ g fun e g1 => Pn (ρ.set i (some e)) g1) : PSt c (tAsg te (gName i)) ρ g Pn Pr := fun σ I H ok en D kn kr =>
  h σ I H ok en _ fun v I1 H1 g1 e s1 ok1 r1 p1 => kn _ I1 H1 g1 _ s1 ok1 ((en.mono s1.im).set i r1) p1
theorem ps_drop (h : PV c te ρ g fun e g1 => Pn ρ g1) : PSt c (tDrop te) ρ g Pn Pr := fun σ I H ok en D kn kr =>
  h σ I H ok en _ fun v I1 H1 g1 e s1 ok1 r1 p1 => kn _ I1 H1 g1 _ s1 ok1 (en.mono s1.im) p1
theorem ps_if (h : PB c tc ρ g fun b g1 => if b = true then PSt c t ρ g1 Pn Pr else PSt c u ρ g1 Pn Pr) : PSt c (tIfS tc t u) ρ g Pn Pr := fun σ I H ok en D kn kr =>
  h σ I H ok en _ fun b I1 H1 g1 s1 ok1 p1 => by
    cases b with
    | true => exact p1 σ I1 H1 ok1 (en.mono s1.im) D (fun σ2 I2 H2 g2 ρ2 s2 ok2 en2 p2 => kn σ2 I2 H2 g2 ρ2 (s1.trans s2) ok2 en2 p2) fun v I2 H2 g2 e s2 ok2 r2 p2 => kr v I2 H2 g2 e (s1.trans s2) ok2 r2 p2
    | false => exact p1 σ I1 H1 ok1 (en.mono s1.im) D (fun σ2 I2 H2 g2 ρ2 s2 ok2 en2 p2 => kn σ2 I2 H2 g2 ρ2 (s1.trans s2) ok2 en2 p2) fun v I2 H2 g2 e s2 ok2 r2 p2 => kr v I2 H2 g2 e (s1.trans s2) ok2 r2 p2
theorem PSt.imp {Pn' : Rho → c.S → Prop} (h : PSt c t ρ g Pn' Pr) (i : ∀ r g2, Pn' r g2 → Pn r g2) : PSt c t ρ g Pn Pr := fun σ I H ok en D kn kr =>
  h σ I H ok en D (fun σ2 I2 H2 g2 ρ2 s2 ok2 en2 p2 => kn σ2 I2 H2 g2 ρ2 s2 ok2 en2 (i _ _ p2)) kr
end
end Dl
set_option Elab.async false
set_option linter.all false
set_option maxRecDepth 100000
set_option maxHeartbeats 4000000
namespace Dl
open PySem PySem.Spec PyProof.Rows L2 PySem.PyData
mutual
def fit : PyData → Bool
  | .str x => decide (x.length ≤ 1000000)
  | .list xs => decide (xs.length ≤ 1000000) && fitAll xs
  | .tuple xs => decide (xs.length ≤ 1000000) && fitAll xs
  | .dict _ => true
  | .int i => decide (-(2 ^ 61) ≤ i) && decide (i ≤ 2 ^ 61)
  | _ => true
def fitAll : List PyData → Bool
  | [] => true
  | x :: xs => fit x && fitAll xs
end
theorem fitAll_mem : ∀ {xs : List PyData} {x : PyData}, fitAll xs = true → x ∈ xs → fit x = true
  | [], _, _, h => by cases h
  | y :: ys, x, h, m => by
    rw [fitAll, Bool.and_eq_true] at h
    rcases List.mem_cons.mp m with e | m
    · rw [e]; exact h.1
    · exact fitAll_mem h.2 m
theorem fitAll_of : ∀ {xs : List PyData}, (∀ x ∈ xs, fit x = true) → fitAll xs = true
  | [], _ => by rw [fitAll]
  | y :: ys, h => by
    rw [fitAll, Bool.and_eq_true]
    exact ⟨h y List.mem_cons_self, fitAll_of fun x m => h x (List.mem_cons_of_mem _ m)⟩
theorem fitAll_iff {xs : List PyData} : fitAll xs = true ↔ ∀ x ∈ xs, fit x = true := ⟨fun h x m => fitAll_mem h m, fitAll_of⟩
theorem fit_tup {xs : List PyData} : fit (.tuple xs) = true ↔ xs.length ≤ 1000000 ∧ ∀ x ∈ xs, fit x = true := by
  rw [fit, Bool.and_eq_true, decide_eq_true_eq, fitAll_iff]
theorem fit_int {i : Int} : fit (.int i) = true ↔ -(2 ^ 61) ≤ i ∧ i ≤ 2 ^ 61 := by rw [fit, Bool.and_eq_true, decide_eq_true_eq, decide_eq_true_eq]
theorem fit_str {x : Str} : fit (.str x) = true ↔ x.length ≤ 1000000 ∧ True := by
  rw [fit, decide_eq_true_eq, and_true]
mutual
theorem noD_of_lay : ∀ {d : PyData}, d.canLay0 = true → noD d = true
  | .none, _ => by rw [noD] <;> simp
  | .bool _, _ => by rw [noD] <;> simp
  | .int _, _ => by rw [noD] <;> simp
  | .str _, _ => by rw [noD] <;> simp
  | .list xs, h => by rw [PyData.canLay0] at h; rw [noD]; exact noDAll_of_lay h
  | .tuple xs, h => by rw [PyData.canLay0] at h; rw [noD]; exact noDAll_of_lay h
  | .dict _, h => by rw [PyData.canLay0] at h; cases h
theorem noDAll_of_lay : ∀ {xs : List PyData}, PyData.canLayAll0 xs = true → noDAll xs = true
  | [], _ => by rw [noDAll]
  | x :: xs, h => by
    rw [PyData.canLayAll0, Bool.and_eq_true] at h
    rw [noDAll, noD_of_lay h.1, noDAll_of_lay h.2]; rfl
end
theorem shaped_of {d : PyData} (h : d.canLay0 = true) (k : d.depth ≤ 64) : SeqAt.shaped d = true := by
  show (d.canLay0 && decide (d.depth ≤ 64)) = true
  rw [h, decide_eq_true k]; rfl
theorem million : (1000000 : Nat) ≤ sizeLine := by rw [sizeLine_eq]; decide
theorem le_line {n : Nat} (h : n ≤ 1000000) : n ≤ sizeLine := Nat.le_trans h million
def tyN : PyData → String
  | .none => "NoneType" | .bool _ => "bool" | .int _ => "int" | .str _ => "str" | .list _ => "list" | .tuple _ => "tuple" | .dict _ => "dict"
theorem tyx_of {K : PySem.W.Frag} {H : Hp} : ∀ {d : PyData} {v : V}, Dp K H v d → TyX K H v (.type (tyN d)) ∨ ∃ a C t x, v = .ref a ∧ H a = some (exoT a C t) ∧ ExcQ K C x ∧ d = .dict [(.none, .str x)]
  | .none, _, h => by cases h; exact .inl (.base .non)
  | .bool b, _, h => by cases h; exact .inl (.base (.bl b))
  | .int i, _, h => by cases h; exact .inl (.base (.int i))
  | .str x, _, h => by cases h; exact .inl (.base (.str x))
  | .list ds, _, h => by
    cases h with
    | lst h1 h2 =>
      rcases h1 with (h1 | ⟨o, h1⟩) | ⟨o, its, n, h1, hc, _⟩
      · exact .inl (.base (.lst h1))
      · exact .inl (.base (.frz h1))
      · exact .inl (.kList h1 hc)
  | .tuple ds, _, h => by
    cases h with
    | tup h1 h2 =>
      rcases h1 with (h1 | ⟨o, h1⟩) | ⟨o, its, n, h1, hc, _⟩
      · exact .inl (.base (.tup h1))
      · exact .inl (.fTuple h1)
      · exact .inl (.kTuple h1 hc)
  | .dict _, _, h => by
    cases h with
    | dct h1 _ _ => exact .inl (.base (.dK h1))
    | exc q h1 h2 => exact .inr ⟨_, _, _, _, rfl, h1, q, rfl⟩
def isInt : PyData → Bool | .int _ => true | .bool _ => true | _ => false
def isBool : PyData → Bool | .bool _ => true | _ => false
def isStr : PyData → Bool | .str _ => true | _ => false
def isTup : PyData → Bool | .tuple _ => true | _ => false
def isLst : PyData → Bool | .list _ => true | _ => false
def isT (T : String) (d : PyData) : Option Bool := kitB (tyN d) T
theorem isT_int : ∀ d : PyData, isT "int" d = some (isInt d)
  | .none => (by decide +kernel : kitB "NoneType" "int" = some false)
  | .bool _ => (by decide +kernel : kitB "bool" "int" = some true)
  | .int _ => (by decide +kernel : kitB "int" "int" = some true)
  | .str _ => (by decide +kernel : kitB "str" "int" = some false)
  | .list _ => (by decide +kernel : kitB "list" "int" = some false)
  | .tuple _ => (by decide +kernel : kitB "tuple" "int" = some false)
  | .dict _ => (by decide +kernel : kitB "dict" "int" = some false)
theorem isT_bool : ∀ d : PyData, isT "bool" d = some (isBool d)
  | .none => (by decide +kernel : kitB "NoneType" "bool" = some false)
  | .bool _ => (by decide +kernel : kitB "bool" "bool" = some true)
  | .int _ => (by decide +kernel : kitB "int" "bool" = some false)
  | .str _ => (by decide +kernel : kitB "str" "bool" = some false)
  | .list _ => (by decide +kernel : kitB "list" "bool" = some false)
  | .tuple _ => (by decide +kernel : kitB "tuple" "bool" = some false)
  | .dict _ => (by decide +kernel : kitB "dict" "bool" = some false)
theorem isT_str : ∀ d : PyData, isT "str" d = some (isStr d)
  | .none => (by decide +kernel : kitB "NoneType" "str" = some false)
  | .bool _ => (by decide +kernel : kitB "bool" "str" = some false)
  | .int _ => (by decide +kernel : kitB "int" "str" = some false)
  | .str _ => (by decide +kernel : kitB "str" "str" = some true)
  | .list _ => (by decide +kernel : kitB "list" "str" = some false)
  | .tuple _ => (by decide +kernel : kitB "tuple" "str" = some false)
  | .dict _ => (by decide +kernel : kitB "dict" "str" = some false)
theorem isT_tuple : ∀ d : PyData, isT "tuple" d = some (isTup d)
  | .none => (by decide +kernel : kitB "NoneType" "tuple" = some false)
  | .bool _ => (by decide +kernel : kitB "bool" "tuple" = some false)
  | .int _ => (by decide +kernel : kitB "int" "tuple" = some false)
  | .str _ => (by decide +kernel : kitB "str" "tuple" = some false)
  | .list _ => (by decide +kernel : kitB "list" "tuple" = some false)
  | .tuple _ => (by decide +kernel : kitB "tuple" "tuple" = some true)
  | .dict _ => (by decide +kernel : kitB "dict" "tuple" = some false)
theorem isT_list : ∀ d : PyData, isT "list" d = some (isLst d)
  | .none => (by decide +kernel : kitB "NoneType" "list" = some false)
  | .bool _ => (by decide +kernel : kitB "bool" "list" = some false)
  | .int _ => (by decide +kernel : kitB "int" "list" = some false)
  | .str _ => (by decide +kernel : kitB "str" "list" = some false)
  | .list _ => (by decide +kernel : kitB "list" "list" = some true)
  | .tuple _ => (by decide +kernel : kitB "tuple" "list" = some false)
  | .dict _ => (by decide +kernel : kitB "dict" "list" = some false)
section
variable {c : Ctx} {ρ : Rho} {g : c.S} {P P' : EV → c.S → Prop} {te ta tb tc : TE} {t u : TT} {I H : Hp} {Q : VK}
/-- isinstance of an exception that is a value -/
def rIsiE (K : PySem.W.Frag) : List V → Hp → VK → Prop := fun xs H Q => ∃ (a C t : Addr) (c : V) (u : Value) (b : Bool), xs = [.ref a, c] ∧ H a = some (exoT a C t) ∧ ExcC K C ∧ ClsV c u ∧ PySem.W.kitOne K (.ref C) u = some b ∧ Q (.bl b) H
def zIsi (K : PySem.W.Frag) : List V → Hp → VK → Prop := fun xs H Q => rIsi K xs H Q ∨ rIsiE K xs H Q
theorem inst_excT {h : Heap} {a C t : Addr} (e : h.get? a = some ({ cls := .ref C, dict := none, data := .fields #[.ref t, .none, .none, .none, .bool false, .none] } : Obj)) : PySem.W.InstAt h a ({ cls := .ref C, dict := none, data := .fields #[.ref t, .none, .none, .none, .bool false, .none] } : Obj) C none := ⟨e, rfl, rfl, trivial⟩
theorem cr_isi {X : Cx} {K : PySem.W.Frag} (e : X.K = K := by rfl) : CallR X (.builtin "isinstance") (zIsi K) := by
  subst e
  intro pins s σ H xs us Q I r h
  rcases h with h | ⟨a, C, t, c, u, b, rfl, ha, hC, k, eb, q⟩
  · exact call_isi pins s σ H xs us Q I r h
  · obtain ⟨u1, u2, rfl, r1, r2⟩ := vals2 r
    cases (show u1 = Value.ref a from r1)
    have e2 := k.eq r2
    subst e2
    exact PySem.W.kia_one (PySem.W.handS_kitx_exc hC.hg hC.hk hC.hs hC.hd hC.ha hC.hn hC.ht hC.hm) I.kIn (inst_excT (exoT_at I.hok ha)) eb (fun z => nomatch z) fun tk => ⟨.bl b, H, I.tok tk, rfl, q⟩
/-- the five kinds that are asked for -/
theorem isT_five {T : String} {b : Bool} {x : Str} (h : isT T (.dict [(.none, .str x)]) = some b) (m : T ∈ (["int", "bool", "str", "tuple", "list"] : List String)) : b = false := by
  simp only [List.mem_cons, List.not_mem_nil, or_false] at m
  rcases m with rfl | rfl | rfl | rfl | rfl
  · rw [isT_int] at h; cases h; rfl
  · rw [isT_bool] at h; cases h; rfl
  · rw [isT_str] at h; cases h; rfl
  · rw [isT_tuple] at h; cases h; rfl
  · rw [isT_list] at h; cases h; rfl
theorem oc_isi {d : PyData} {T : String} {b : Bool} (h : isT T d = some b) (p : P (.d (.bool b)) g) (m : T ∈ (["int", "bool", "str", "tuple", "list"] : List String) := by simp) : OC c (zIsi c.K) [.d d, .r (.ty T)] g P := fun I H vs ok r Q k => by
  cases r with
  | cons r1 r =>
    cases r with
    | cons r2 r =>
      cases r
      cases r2
      rcases tyx_of (dp_of ok r1) with ty | ⟨a, C, t, x, rfl, ha, q, rfl⟩
      · exact .inl ⟨_, _, _, _, b, rfl, .ty T, ty, kit_ty h, k.here (e := .d (.bool b)) ok (Dp.bl b) p⟩
      · have := isT_five h m
        subst this
        exact .inr ⟨a, C, t, _, _, false, rfl, ha, q.is_, .ty T, q.no T m, k.here (e := .d (.bool false)) ok (Dp.bl false) p⟩
theorem o_ii {f : Int → Int → Int} {i j : Int} (p : P (.d (.int (f i j))) g) : O2 c (rI0 fun i j => .int (f i j)) (.d (.int i)) (.d (.int j)) g P := fun I H xv yv ok rx ry Q k => by
  cases rx; cases ry
  exact ⟨i, j, rfl, rfl, k.here (e := .d (.int (f i j))) ok (Dp.int _) p⟩
theorem o_ib {f : Int → Int → Bool} {i j : Int} (p : P (.d (.bool (f i j))) g) : O2 c (rI0 fun i j => .bl (f i j)) (.d (.int i)) (.d (.int j)) g P := fun I H xv yv ok rx ry Q k => by
  cases rx; cases ry
  exact ⟨i, j, rfl, rfl, k.here (e := .d (.bool (f i j))) ok (Dp.bl _) p⟩
theorem o_iic {C : Int → Int → Prop} {f : Int → Int → Int} {i j : Int} (h : C i j) (p : P (.d (.int (f i j))) g) : O2 c (rI C fun i j => .int (f i j)) (.d (.int i)) (.d (.int j)) g P := fun I H xv yv ok rx ry Q k => by
  cases rx; cases ry
  exact ⟨i, j, rfl, rfl, h, k.here (e := .d (.int (f i j))) ok (Dp.int _) p⟩
/-- list + list, whatever they are -/
def rCatL (K : PySem.W.Frag) : R2 := fun x y H Q => ∃ a b xs ys, x = .ref a ∧ y = .ref b ∧ SqL K H a xs ∧ SqL K H b ys ∧ xs.length + ys.length ≤ sizeLine ∧ ∀ p, H p = Option.none → Q (.ref p) (upd H p (.lst (xs ++ ys)))
theorem op_catL {X : Cx} : OpR X (binaryOp .Add) (rCatL X.K) := by
  intro pins s σ H x y v u Q I rx ry h
  obtain ⟨a, b, xs, ys, rfl, rfl, ha, hb, hz, q⟩ := h
  cases rx
  cases ry
  obtain ⟨its, r1, p1, _⟩ := I.list ha
  obtain ⟨its2, r2, p2, _⟩ := I.list hb
  obtain ⟨⟨cls, dd, data, sl⟩, n, ho, hc, _, hd⟩ := p1
  obtain ⟨⟨cls2, dd2, data2, sl2⟩, n2, ho2, hc2, _, hd2⟩ := p2
  simp only at hc hd hc2 hd2
  subst hc hd hc2 hd2
  have hsz : its.toArray.size + its2.toArray.size ≤ sizeLine := by rw [List.size_toArray, List.size_toArray, ← r1.length, ← r2.length]; exact hz
  have e : its.toArray ++ its2.toArray = (its ++ its2).toArray := by simp
  refine concat_meets ⟨_, ho, rfl⟩ ⟨_, ho2, rfl⟩ noFill_list_add seq_list_add PySem.F.slot_list_add PySem.F.entry_list_add (PySem.F.args_list_add_2 _ _) (list_addW a b its.toArray its2.toArray n n2 dd dd2 sl sl2 hsz) ⟨ho, ho2, ?_⟩
  rw [e]
  exact ⟨.ref _, _, I.lnew (t' := s.toks) (r1.append r2) (by rw [List.length_append]; exact hz), rfl, q _ I.fresh⟩
def zAdd (K : PySem.W.Frag) : R2 := fun x y H Q => (rI0 fun i j => .int (i + j)) x y H Q ∨ (∃ i j, x = .str i ∧ y = .str j ∧ i.length + j.length ≤ sizeLine ∧ Q (.str (i ++ j)) H) ∨ rCatA K x y H Q ∨ rCatL K x y H Q
theorem op_zadd {X : Cx} {K : PySem.W.Frag} (e : X.K = K := by rfl) : OpR X (binaryOp .Add) (zAdd K) := by subst e; exact op_add.or (op_add_str.or (op_catA.or op_catL))
theorem o_add {i j : Int} (p : P (.d (.int (i + j))) g) : O2 c (zAdd c.K) (.d (.int i)) (.d (.int j)) g P := fun I H xv yv ok rx ry Q k =>
  .inl (o_ii (f := fun i j => i + j) p I H xv yv ok rx ry Q k)
theorem o_addS {i j : Str} (hz : i.length + j.length ≤ sizeLine) (p : P (.d (.str (i ++ j))) g) : O2 c (zAdd c.K) (.d (.str i)) (.d (.str j)) g P := fun I H xv yv ok rx ry Q k => by
  cases rx; cases ry
  exact .inr (.inl ⟨i, j, rfl, rfl, hz, k.here (e := .d (.str (i ++ j))) ok (Dp.str _) p⟩)
theorem o_addT {ds es : List PyData} (hz : ds.length + es.length ≤ sizeLine) (p : P (.d (.tuple (ds ++ es))) g) : O2 c (zAdd c.K) (.d (.tuple ds)) (.d (.tuple es)) g P := fun I H xv yv ok rx ry Q k => by
  cases rx with
  | @tup a xs _ hx ax =>
    cases ry with
    | @tup b ys _ hy ay =>
      refine .inr (.inr (.inl ⟨a, b, xs, ys, rfl, rfl, ok.ex.seqT hx, ok.ex.seqT hy, by rw [dpAll_len ax, dpAll_len ay]; exact hz, fun e => ?_, fun _ e => ?_, fun _ _ q hq => ?_⟩))
      · subst e
        cases ax
        exact k.here (e := .d (.tuple ([] ++ es))) ok (Dp.tup hy ay) p
      · subst e
        cases ay
        rw [List.append_nil] at p
        exact k.here (e := .d (.tuple ds)) ok (Dp.tup hx ax) p
      · exact k _ (upd I q (.tup (xs ++ ys))) _ g (.d (.tuple (ds ++ es))) (Step.new ok hq) (ok.new hq) (Dp.tup (.inl (.inl upd_same)) (dpAll_mono (Ex.new (ok.free hq)) _ _ (dpAll_append ax ay))) p
def zEq (K : PySem.W.Frag) : R2 := fun x y H Q => rEq x y H Q ∨ rEqD K x y H Q
theorem op_zeq {X : Cx} {K : PySem.W.Frag} (hu : X.A.units + 64 < cLine) (e : X.K = K := by rfl) : OpR X (compareOp .Eq) (zEq K) := by subst e; exact op_eq.or (op_eqD hu)
def zNe (K : PySem.W.Frag) : R2 := fun x y H Q => rNe x y H Q ∨ rNeD K x y H Q
theorem op_zne {X : Cx} {K : PySem.W.Frag} (hu : X.A.units + 64 < cLine) (e : X.K = K := by rfl) : OpR X (compareOp .NotEq) (zNe K) := by subst e; exact op_ne.or (op_neD hu)
theorem o_eq {d e : PyData} (hd : fit d = true) (he : fit e = true) (pd : d.canLay0 = true) (pe : e.canLay0 = true) (kd : d.depth ≤ 64) (ke : e.depth ≤ 64) (p : P (.d (.bool (PyData.eqv d e))) g) : O2 c (zEq c.K) (.d d) (.d e) g P := fun I H xv yv ok rx ry Q k =>
  .inr ⟨d, e, (dp_of ok rx).kit (noD_of_lay pd), (dp_of ok ry).kit (noD_of_lay pe), shaped_of pd kd, shaped_of pe ke, k.here (e := .d (.bool (PyData.eqv d e))) ok (Dp.bl _) p⟩
theorem o_ne {d e : PyData} (hd : fit d = true) (he : fit e = true) (pd : d.canLay0 = true) (pe : e.canLay0 = true) (kd : d.depth ≤ 64) (ke : e.depth ≤ 64) (p : P (.d (.bool (!PyData.eqv d e))) g) : O2 c (zNe c.K) (.d d) (.d e) g P := fun I H xv yv ok rx ry Q k =>
  .inr ⟨d, e, (dp_of ok rx).kit (noD_of_lay pd), (dp_of ok ry).kit (noD_of_lay pe), shaped_of pd kd, shaped_of pe ke, k.here (e := .d (.bool (!PyData.eqv d e))) ok (Dp.bl _) p⟩
theorem o_eqI {i j : Int} (p : P (.d (.bool (decide (i = j)))) g) : O2 c (zEq c.K) (.d (.int i)) (.d (.int j)) g P := fun I H xv yv ok rx ry Q k => by
  cases rx; cases ry
  have e : decide (V.int i = V.int j) = decide (i = j) := by simp
  exact .inl ⟨rfl, by rw [e]; exact k.here (e := .d (.bool (decide (i = j)))) ok (Dp.bl _) p⟩
theorem o_eqS {i j : Str} (p : P (.d (.bool (decide (i = j)))) g) : O2 c (zEq c.K) (.d (.str i)) (.d (.str j)) g P := fun I H xv yv ok rx ry Q k => by
  cases rx; cases ry
  have e : decide (V.str i = V.str j) = decide (i = j) := by simp
  exact .inl ⟨rfl, by rw [e]; exact k.here (e := .d (.bool (decide (i = j)))) ok (Dp.bl _) p⟩
theorem o_eqB {i j : Bool} (p : P (.d (.bool (decide (i = j)))) g) : O2 c (zEq c.K) (.d (.bool i)) (.d (.bool j)) g P := fun I H xv yv ok rx ry Q k => by
  cases rx; cases ry
  have e : decide (V.bl i = V.bl j) = decide (i = j) := by simp
  exact .inl ⟨rfl, by rw [e]; exact k.here (e := .d (.bool (decide (i = j)))) ok (Dp.bl _) p⟩
theorem o_neI {i j : Int} (p : P (.d (.bool (!decide (i = j)))) g) : O2 c (zNe c.K) (.d (.int i)) (.d (.int j)) g P := fun I H xv yv ok rx ry Q k => by
  cases rx; cases ry
  have e : decide (V.int i = V.int j) = decide (i = j) := by simp
  exact .inl ⟨rfl, by rw [e]; exact k.here (e := .d (.bool (!decide (i = j)))) ok (Dp.bl _) p⟩
theorem o_neB {i j : Bool} (p : P (.d (.bool (!decide (i = j)))) g) : O2 c (zNe c.K) (.d (.bool i)) (.d (.bool j)) g P := fun I H xv yv ok rx ry Q k => by
  cases rx; cases ry
  have e : decide (V.bl i = V.bl j) = decide (i = j) := by simp
  exact .inl ⟨rfl, by rw [e]; exact k.here (e := .d (.bool (!decide (i = j)))) ok (Dp.bl _) p⟩
def zLeS : R2 := fun x y H Q => ∃ i j, x = .str i ∧ y = .str j ∧ Q (.bl (!decide (j.cps.toList < i.cps.toList))) H
def zLe : R2 := fun x y H Q => (rI0 fun i j => .bl (decide (i ≤ j))) x y H Q ∨ zLeS x y H Q
theorem op_zle {X : Cx} : OpR X (compareOp .LtE) zLe := op_le.or op_le_str
theorem o_le {i j : Int} (p : P (.d (.bool (decide (i ≤ j)))) g) : O2 c zLe (.d (.int i)) (.d (.int j)) g P := fun I H xv yv ok rx ry Q k =>
  .inl (o_ib (f := fun i j => decide (i ≤ j)) p I H xv yv ok rx ry Q k)
theorem o_leS {i j : Str} (p : P (.d (.bool (!decide (j.cps.toList < i.cps.toList)))) g) : O2 c zLe (.d (.str i)) (.d (.str j)) g P := fun I H xv yv ok rx ry Q k => by
  cases rx; cases ry
  exact .inr ⟨i, j, rfl, rfl, k.here (e := .d (.bool _)) ok (Dp.bl _) p⟩
/-- a < b: whole numbers, or data that are alike -/
def rLtD (K : PySem.W.Frag) : R2 := fun x y H Q => ∃ d e, L2.Dp K H x d ∧ L2.Dp K H y e ∧ PySem.W.alike d e = true ∧ d ≠ .none ∧ min d.depth e.depth ≤ 60 ∧ Q (.bl (PySem.W.dataLt d e)) H
theorem op_ltD {X : Cx} (hu : X.A.units + 64 < cLine) : OpR X (compareOp .Lt) (rLtD X.K) := by
  intro pins s σ H x y v u Q I rx ry h
  obtain ⟨d, e, hd, he, al, hn, hm, q⟩ := h
  obtain ⟨as, r1⟩ := L2.Dp.reads I d x v hd rx
  obtain ⟨bs, r2⟩ := L2.Dp.reads I e y u he ry
  exact PySem.W.rcLt_alike d e _ _ _ _ as bs r1 r2 al hn (by omega) _ _ _ _ ⟨.bl _, H, I, rfl, q⟩
end
end Dl
set_option Elab.async false
set_option linter.all false
set_option maxRecDepth 100000
set_option maxHeartbeats 4000000
namespace Dl
open PySem PySem.Spec PyProof.Rows L2
section
variable {c : Ctx} {ρ : Rho} {g : c.S} {P P' : EV → c.S → Prop} {te ta tb tc : TE} {t u : TT} {I H : Hp} {Q : VK}
def zLt (K : PySem.W.Frag) : R2 := fun x y H Q => (rI0 fun i j => .bl (decide (i < j))) x y H Q ∨ rLtD K x y H Q
theorem op_zlt {X : Cx} {K : PySem.W.Frag} (hu : X.A.units + 64 < cLine) (e : X.K = K := by rfl) : OpR X (compareOp .Lt) (zLt K) := by subst e; exact op_lt.or (op_ltD hu)
theorem o_lt {i j : Int} (p : P (.d (.bool (decide (i < j)))) g) : O2 c (zLt c.K) (.d (.int i)) (.d (.int j)) g P := fun I H xv yv ok rx ry Q k =>
  .inl (o_ib (f := fun i j => decide (i < j)) p I H xv yv ok rx ry Q k)
theorem o_isN {d : PyData} {b : Bool} (h : (match d with | .none => true | _ => false) = b) (p : P (.d (.bool b)) g) : O2 c (fun x y H Q => y = .non ∧ Q (.bl (decide (x = .non))) H) (.d d) (.d .none) g P := fun I H xv yv ok rx ry Q k => by
  cases ry
  refine ⟨rfl, ?_⟩
  have e : decide (xv = .non) = b := by
    subst h
    cases d <;> cases rx <;> simp
  rw [e]
  exact k.here (e := .d (.bool b)) ok (Dp.bl _) p
theorem o_notN {d : PyData} {b : Bool} (h : (match d with | .none => false | _ => true) = b) (p : P (.d (.bool b)) g) : O2 c (fun x y H Q => y = .non ∧ Q (.bl (!decide (x = .non))) H) (.d d) (.d .none) g P := fun I H xv yv ok rx ry Q k => by
  cases ry
  refine ⟨rfl, ?_⟩
  have e : (!decide (xv = .non)) = b := by
    subst h
    cases d <;> cases rx <;> simp
  rw [e]
  exact k.here (e := .d (.bool b)) ok (Dp.bl _) p
/-- a sign in a text; a text that may be longer -/
def zInS : R2 := fun x y H Q => ∃ (c : Nat) (z : Str), x = .str ⟨#[c]⟩ ∧ y = .str z ∧ Q (.bl (decide (c ∈ z.cps.toList))) H
theorem op_zinS {X : Cx} : OpR X (compareOp .In) zInS := op_in_sign
theorem o_inS {n : Nat} {z : Str} (p : P (.d (.bool (decide (n ∈ z.cps.toList)))) g) : O2 c zInS (.d (.str ⟨#[n]⟩)) (.d (.str z)) g P := fun I H xv yv ok rx ry Q k => by
  cases rx; cases ry
  exact ⟨n, z, rfl, rfl, k.here (e := .d (.bool _)) ok (Dp.bl _) p⟩
def zIx (K : PySem.W.Frag) (w : World) : R2 := fun x y H Q => rIx K x y H Q ∨ rIxD K w x y H Q
theorem ix_z {X : Cx} {K : PySem.W.Frag} {w : World} (e : X.K = K := by rfl) (e2 : X.w = w := by rfl) : IxR X (zIx K w) := by subst e e2; exact ix_seq.or ix_kdict
variable {w : World}
theorem dpAll_at {K : PySem.W.Frag} {H : Hp} {ds : List PyData} {vs : List V} {i : Int} {d : PyData} (h : DpAll K H vs ds) (e : atI ds i = some d) : ∃ v, atI vs i = some v ∧ Dp K H v d := by
  unfold atI at e ⊢
  rw [dpAll_len h]
  cases q : ixN ds.length i with
  | none => rw [q] at e; cases e
  | some j =>
    rw [q] at e
    exact dpAll_get h e
theorem at0 {α : Type} {x : α} {xs : List α} : atI (x :: xs) 0 = some x := atI_nat (j := 0) rfl
theorem at1 {α : Type} {x y : α} {xs : List α} : atI (x :: y :: xs) 1 = some y := atI_nat (j := 1) rfl
theorem o_ixT {ds : List PyData} {i : Int} {d : PyData} (e : atI ds i = some d) (p : P (.d d) g) : O2 c (zIx c.K w) (.d (.tuple ds)) (.d (.int i)) g P := fun I H xv yv ok rx ry Q k => by
  cases ry
  cases rx with
  | @tup a xs _ hx ax =>
    obtain ⟨v, e1, r⟩ := dpAll_at ax e
    exact .inl (.inr (.inl ⟨a, xs, i, v, rfl, rfl, ok.ex.seqT hx, e1, k.here (e := .d d) ok r p⟩))
theorem o_ixL {ds : List PyData} {i : Int} {d : PyData} (e : atI ds i = some d) (p : P (.d d) g) : O2 c (zIx c.K w) (.d (.list ds)) (.d (.int i)) g P := fun I H xv yv ok rx ry Q k => by
  cases ry
  cases rx with
  | @lst a xs _ hx ax =>
    obtain ⟨v, e1, r⟩ := dpAll_at ax e
    exact .inl (.inl ⟨a, xs, i, v, rfl, rfl, ok.ex.seqL hx, e1, k.here (e := .d d) ok r p⟩)
theorem o_ixS {z : Str} {i : Int} {n : Nat} (hz : z.length ≤ sizeLine) (e : atI z.cps.toList i = some n) (p : P (.d (.str ⟨#[n]⟩)) g) : O2 c (zIx c.K w) (.d (.str z)) (.d (.int i)) g P := fun I H xv yv ok rx ry Q k => by
  cases ry; cases rx
  exact .inl (.inr (.inr ⟨z, i, n, rfl, rfl, hz, e, k.here (e := .d (.str _)) ok (Dp.str _) p⟩))
theorem o_ixDT {a t : Addr} {z : Str} {fs : List V} (h : KDct c.K w a z (.ref t)) (ht : ∀ H, SqT c.K H t fs) (p : P (.rl fs) g) : O2 c (zIx c.K w) (.r (.ref a)) (.d (.str z)) g P := fun I H xv yv ok rx ry Q k => by
  cases ry; cases rx
  exact .inr ⟨a, z, _, rfl, rfl, h, k.here (e := .rl fs) ok ⟨t, rfl, .inr (ht I)⟩ p⟩
/-- in a written dict -/
def rInK (d : Addr) (K : PySem.W.Frag) : R2 := fun x y H Q => ∃ (z : Str) (r : Option Value), x = .str z ∧ y = .ref d ∧ PySem.W.nsIn K d z = some r ∧ Q (.bl r.isSome) H
theorem op_inK {X : Cx} {K : PySem.W.Frag} {w : World} {d : Addr} {es : Array DictEntry} {n : Nat} (D : KDict K w d es n) (e : X.K = K := by rfl) (e2 : X.w = w := by rfl) : OpR X (compareOp .In) (rInK d K) := by subst e e2; exact op_in_kd D
theorem o_inK {a : Addr} {z : Str} {r : Option Value} (h : PySem.W.nsIn c.K a z = some r) (p : P (.d (.bool r.isSome)) g) : O2 c (rInK a c.K) (.d (.str z)) (.r (.ref a)) g P := fun I H xv yv ok rx ry Q k => by
  cases ry; cases rx
  exact ⟨z, r, rfl, rfl, h, k.here (e := .d (.bool _)) ok (Dp.bl _) p⟩
def zSl (K : PySem.W.Frag) : V → Option Int → Option Int → Hp → VK → Prop := fun x lo hi H Q => rSlA K x lo hi H Q ∨ rSlL K x lo hi H Q ∨ rSlS x lo hi H Q
theorem sl_z {X : Cx} {K : PySem.W.Frag} (e : X.K = K := by rfl) : SlR X (zSl K) := by subst e; exact sl_tupA.or (sl_list.or sl_str)
/-- a slice of a list of anything -/
def cutD {α : Type} (xs : List α) (lo hi : Option Int) : List α := (xs.drop (HT.sIx xs.length 0 lo)).take (HT.sIx xs.length xs.length hi - HT.sIx xs.length 0 lo)
theorem dpAll_cut {K : PySem.W.Frag} {H : Hp} {ds : List PyData} {vs : List V} (h : DpAll K H vs ds) (lo hi : Option Int) : DpAll K H (cutV vs lo hi) (cutD ds lo hi) := by
  unfold cutV cutD
  rw [dpAll_len h]
  exact dpAll_take _ (dpAll_drop _ h)
theorem cut_whole {α : Type} {xs : List α} {lo hi : Option Int} (h : HT.sIx xs.length 0 lo = 0 ∧ HT.sIx xs.length xs.length hi = xs.length) : cutD xs lo hi = xs := by
  unfold cutD
  rw [h.1, h.2]
  simp
theorem os_tup {ds : List PyData} {lo hi : Option Int} (p : P (.d (.tuple (cutD ds lo hi))) g) : OSl c (zSl c.K) (.d (.tuple ds)) lo hi g P := fun I H xv ok rx Q k => by
  cases rx with
  | @tup a xs _ hx ax =>
    have hl := dpAll_len ax
    refine .inl ⟨a, xs, rfl, ok.ex.seqT hx, fun hw => ?_, fun hw q hq => ?_⟩
    · rw [hl] at hw
      rw [cut_whole hw] at p
      exact k.here (e := .d (.tuple ds)) ok (Dp.tup hx ax) p
    · exact k _ (upd I q (.tup (cutV xs lo hi))) _ g (.d (.tuple _)) (Step.new ok hq) (ok.new hq) (Dp.tup (.inl (.inl upd_same)) (dpAll_mono (Ex.new (ok.free hq)) _ _ (dpAll_cut ax lo hi))) p
theorem os_lst {ds : List PyData} {lo hi : Option Int} (p : P (.d (.list (cutD ds lo hi))) g) : OSl c (zSl c.K) (.d (.list ds)) lo hi g P := fun I H xv ok rx Q k => by
  cases rx with
  | @lst a xs _ hx ax =>
    exact .inr (.inl ⟨a, xs, rfl, ok.ex.seqL hx, fun q hq => k _ (upd I q (.lst (cutV xs lo hi))) _ g (.d (.list _)) (Step.new ok hq) (ok.new hq) (Dp.lst (.inl (.inl upd_same)) (dpAll_mono (Ex.new (ok.free hq)) _ _ (dpAll_cut ax lo hi))) p⟩)
theorem os_str {z : Str} {lo hi : Option Int} (hz : z.length ≤ sizeLine) (p : P (.d (.str (cutS z lo hi))) g) : OSl c (zSl c.K) (.d (.str z)) lo hi g P := fun I H xv ok rx Q k => by
  cases rx
  exact .inr (.inr ⟨z, rfl, hz, k.here (e := .d (.str _)) ok (Dp.str _) p⟩)
def zLen (K : PySem.W.Frag) : List V → Hp → VK → Prop := fun xs H Q => ∃ x n, xs = [x] ∧ LenV K x H n ∧ Q (.int n) H
theorem cr_len {X : Cx} {K : PySem.W.Frag} (e : X.K = K := by rfl) : CallR X (.builtin "len") (zLen K) := by subst e; exact call_len
theorem cr_allZ {X : Cx} {K : PySem.W.Frag} (hc : X.calm = true) (e : X.K = K := by rfl) : CallR X (.builtin "all") (rAll K) := by subst e; exact cr_all hc
theorem pg_tupZ {X : Cx} {K : PySem.W.Frag} {es : List Expr} {k : Nat} {t : TGs} {n : Nat} {pos : Pos} (hc : X.calm = true) (h : PGs X es t) (hn : (assignEach es X.env).length = n := by rfl) (hst : (assignEach es X.env).findIdx? (·.1) = none := by rfl) (e : X.K = K := by rfl) : PG X (.Tuple es k pos) (gTup K n t) := by subst e; exact pg_tup hc h hn hst
theorem pi_tupZ {X : Cx} {K : PySem.W.Frag} {tg l : Expr} {tl : TE} (hl : PE X l tl) (e : X.K = K := by rfl) : PI X tg l (iTup K tl) := by subst e; exact pi_tup hl
theorem pi_lstZ {X : Cx} {K : PySem.W.Frag} {tg l : Expr} {tl : TE} (hl : PE X l tl) (e : X.K = K := by rfl) : PI X tg l (iList K tl) := by subst e; exact pi_list hl
theorem one_of {K : PySem.W.Frag} {I : Hp} {vs : List V} {e : EV} (r : Paired (RelE K I) vs [e]) : ∃ v, vs = [v] ∧ RelE K I v e := by
  cases r with
  | cons h t => cases t; exact ⟨_, rfl, h⟩
theorem two_of {K : PySem.W.Frag} {I : Hp} {vs : List V} {e f : EV} (r : Paired (RelE K I) vs [e, f]) : ∃ v u, vs = [v, u] ∧ RelE K I v e ∧ RelE K I u f := by
  cases r with
  | cons h t =>
    obtain ⟨u, e1, h1⟩ := one_of t
    exact ⟨_, u, by rw [e1], h, h1⟩
theorem oc_lenS {z : Str} (hz : z.length ≤ sizeLine) (p : P (.d (.int z.length)) g) : OC c (zLen c.K) [.d (.str z)] g P := fun I H vs ok r Q k => by
  obtain ⟨v, e, r1⟩ := one_of r
  subst e; cases r1
  exact ⟨_, z.length, rfl, ⟨hz, rfl⟩, k.here (e := .d (.int _)) ok (Dp.int _) p⟩
theorem oc_lenT {ds : List PyData} (p : P (.d (.int ds.length)) g) : OC c (zLen c.K) [.d (.tuple ds)] g P := fun I H vs ok r Q k => by
  obtain ⟨v, e, r1⟩ := one_of r
  subst e
  cases r1 with
  | @tup a xs _ hx ax => exact ⟨_, ds.length, rfl, .inr ⟨xs, ok.ex.seqT hx, (dpAll_len ax).symm⟩, k.here (e := .d (.int _)) ok (Dp.int _) p⟩
theorem oc_lenL {ds : List PyData} (p : P (.d (.int ds.length)) g) : OC c (zLen c.K) [.d (.list ds)] g P := fun I H vs ok r Q k => by
  obtain ⟨v, e, r1⟩ := one_of r
  subst e
  cases r1 with
  | @lst a xs _ hx ax => exact ⟨_, ds.length, rfl, .inl ⟨xs, ok.ex.seqL hx, (dpAll_len ax).symm⟩, k.here (e := .d (.int _)) ok (Dp.int _) p⟩
theorem oc_lenR {xs : List V} (p : P (.d (.int xs.length)) g) : OC c (zLen c.K) [.rl xs] g P := fun I H vs ok r Q k => by
  obtain ⟨v, e, a, e1, r1⟩ := one_of r
  subst e e1
  rcases r1 with h | h
  · exact ⟨_, xs.length, rfl, .inl ⟨xs, ok.ex.seqL h, rfl⟩, k.here (e := .d (.int _)) ok (Dp.int _) p⟩
  · exact ⟨_, xs.length, rfl, .inr ⟨xs, ok.ex.seqT h, rfl⟩, k.here (e := .d (.int _)) ok (Dp.int _) p⟩
theorem oc_all {bs : List Bool} (p : P (.d (.bool (bs.all id))) g) : OC c (rAll c.K) [.d (.list (bs.map .bool))] g P := fun I H vs ok r Q k => by
  obtain ⟨v, e, r1⟩ := one_of r
  subst e
  cases r1 with
  | @lst a xs _ hx ax =>
    have e := dpAll_bls ax
    subst e
    exact ⟨a, bs, rfl, ok.ex.seqL hx, k.here (e := .d (.bool _)) ok (Dp.bl _) p⟩
def zInt : List V → Hp → VK → Prop := fun xs H Q => (∃ i, xs = [.int i] ∧ Q (.int i) H) ∨ ∃ k, xs = [.bl k] ∧ Q (.int (if k then 1 else 0)) H
theorem cr_int {X : Cx} : CallR X (.type "int") zInt := call_int1
theorem oc_int {i : Int} (p : P (.d (.int i)) g) : OC c zInt [.d (.int i)] g P := fun I H vs ok r Q k => by
  obtain ⟨v, e, r1⟩ := one_of r
  subst e; cases r1
  exact .inl ⟨i, rfl, k.here (e := .d (.int _)) ok (Dp.int _) p⟩
def zAbs : List V → Hp → VK → Prop := fun xs H Q => ∃ i, xs = [.int i] ∧ Q (.int (if i < 0 then -i else i)) H
theorem oc_abs {i : Int} (p : P (.d (.int (if i < 0 then -i else i))) g) : OC c zAbs [.d (.int i)] g P := fun I H vs ok r Q k => by
  obtain ⟨v, e, r1⟩ := one_of r
  subst e; cases r1
  exact ⟨i, rfl, k.here (e := .d (.int _)) ok (Dp.int _) p⟩
def zTuple (K : PySem.W.Frag) : List V → Hp → VK → Prop := fun xs H Q => ∃ p ys, xs = [.ref p] ∧ ((SqL K H p ys ∧ ∀ l, H l = none → Q (.ref l) (upd H l (.tup ys))) ∨ (SqT K H p ys ∧ Q (.ref p) H))
theorem cr_tuple {X : Cx} {K : PySem.W.Frag} (e : X.K = K := by rfl) : CallR X (.type "tuple") (zTuple K) := by subst e; exact call_tuple_of
theorem oc_tupleL {ds : List PyData} (p : P (.d (.tuple ds)) g) : OC c (zTuple c.K) [.d (.list ds)] g P := fun I H vs ok r Q k => by
  obtain ⟨v, e, r1⟩ := one_of r
  subst e
  cases r1 with
  | @lst a xs _ hx ax =>
    exact ⟨a, xs, rfl, .inl ⟨ok.ex.seqL hx, fun q hq => k _ (upd I q (.tup xs)) _ g (.d (.tuple _)) (Step.new ok hq) (ok.new hq) (Dp.tup (.inl (.inl upd_same)) (dpAll_mono (Ex.new (ok.free hq)) _ _ ax)) p⟩⟩
def zList (K : PySem.W.Frag) : List V → Hp → VK → Prop := fun xs H Q => ∃ p ys, xs = [.ref p] ∧ (SqL K H p ys ∨ SqT K H p ys) ∧ ∀ l, H l = none → Q (.ref l) (upd H l (.lst ys))
theorem cr_list {X : Cx} {K : PySem.W.Frag} (e : X.K = K := by rfl) : CallR X (.type "list") (zList K) := by subst e; exact call_list_of
theorem oc_listT {ds : List PyData} (p : P (.d (.list ds)) g) : OC c (zList c.K) [.d (.tuple ds)] g P := fun I H vs ok r Q k => by
  obtain ⟨v, e, r1⟩ := one_of r
  subst e
  cases r1 with
  | @tup a xs _ hx ax =>
    exact ⟨a, xs, rfl, .inr (ok.ex.seqT hx), fun q hq => k _ (upd I q (.lst xs)) _ g (.d (.list _)) (Step.new ok hq) (ok.new hq) (Dp.lst (.inl (.inl upd_same)) (dpAll_mono (Ex.new (ok.free hq)) _ _ ax)) p⟩
def zJoin (K : PySem.W.Frag) : V → List V → Hp → VK → Prop := fun x xs H Q => ∃ a p, ∃ ys : List Str, x = .str a ∧ xs = [.ref p] ∧ (SqL K H p (ys.map V.str) ∨ SqT K H p (ys.map V.str)) ∧ (ys.map (·.length)).sum + ys.length * a.length ≤ 16777216 ∧ Q (.str (Txt.join a ys)) H
theorem pe_joinZ {X : Cx} {K : PySem.W.Frag} {o e : Expr} {to te : TE} {apos pos : Pos} (ho : PE X o to) (he : PE X e te) (hb : attributeBase o "join" X.env (eval o X.env) = eval o X.env := by rfl) (hl : (apos.endLine == pos.line) = true := by rfl) (ek : X.K = K := by rfl) (hst : starEach [e] X.env = [(false, eval e X.env)] := by rfl) : PE X (.Call (.Attribute o "join" apos) [e] [] pos) (tM1 (zJoin K) to te) := by subst ek; exact pe_join ho he hst hb hl
theorem pv_join {x : Str} (h : PV c te ρ g fun e g1 => ∃ ys : List Str, e = .d (.list (ys.map .str)) ∧ (ys.map (·.length)).sum + ys.length * x.length ≤ 16777216 ∧ P (.d (.str (Txt.join x ys))) g1) : PV c (tM1 (zJoin c.K) (tC (.str x)) te) ρ g P := fun σ I H ok en Q k =>
  ⟨⟨x, rfl⟩, h σ I H ok en _ fun v I1 H1 g1 e s1 ok1 r1 ⟨ys, e1, hz, p1⟩ => by
    subst e1
    cases r1 with
    | @lst a xs _ hx ax =>
      have e := dpAll_strs ax
      subst e
      exact ⟨x, a, ys, rfl, rfl, .inl (ok1.ex.seqL hx), hz, k _ I1 H1 g1 (.d (.str _)) s1 ok1 (Dp.str _) p1⟩⟩
theorem pv_callA {i : Nat} {S : Addr → Option Sp} {f : Addr} {F : (c : Ctx) → c.S → List EV → (EV → c.S → Prop) → Prop} {tl : TA} (hi : ρ[i]? = some (some (.r (.ref f)))) (hS : S f = some (SpF c.K F)) (h : PAs c tl ρ g fun es g1 => F c g1 es P) :
    PV c (tCallA i S tl) ρ g P := fun σ I H ok en Q k => by
  obtain ⟨v, e1, r⟩ := en.2 i _ hi
  have r' : v = .ref f := r
  subst r'
  exact ⟨f, _, e1, hS, h σ I H ok en _ fun vs I1 H1 g1 es s1 ok1 r1 p1 => ⟨c, I1, g1, es, P, rfl, ok1, r1, p1, fun v I2 H2 g2 e s2 ok2 r2 p2 => k v I2 H2 g2 e (s1.trans s2) ok2 r2 p2⟩⟩
end
def setAll (σ : L2.St) (L : List (Nat × V)) : L2.St := L.foldl (fun s p => s.set p.1 (some p.2)) σ
structure Walk (c : Ctx) (J : It) (gt : TG) (js : List Nat) (n : Nat) (f : Nat → Rho → Rho) (I1 : Hp) : Prop where
  stop : ∀ i I H g, Ex I1 I → Ok c I H g → i = n → J.stop i H
  go : ∀ i I H g, Ex I1 I → Ok c I H g → i < n → J.go i H
  yld : ∀ i I H (g : c.S) x H', Ex I1 I → Ok c I H g → i < n → J.yld i H x H' → ∀ σ ρ, EnvOk c.K I σ ρ → ∀ Q : L2.St → Hp → Prop,
    (∀ L I2 H2, (∀ p ∈ L, p.1 ∈ js) → Step c I H g I2 H2 g → Ok c I2 H2 g → EnvOk c.K I2 (setAll σ L) (f i ρ) → Q (setAll σ L) H2) → gt x σ H' Q
def PIt (c : Ctx) (wi : TI) (gt : TG) (js : List Nat) (ρ : Rho) (g : c.S) (P : Nat → (Nat → Rho → Rho) → c.S → Prop) : Prop := ∀ σ I H, Ok c I H g → EnvOk c.K I σ ρ → ∀ R : It → Hp → Prop,
  (∀ J n f I1 H1 g1, Step c I H g I1 H1 g1 → Ok c I1 H1 g1 → Walk c J gt js n f I1 → P n f g1 → R J H1) → wi σ H R
theorem wipe_set {σ : L2.St} {i : Nat} {x : Option V} : ∀ {vs : List Nat}, i ∈ vs → wipe (σ.set i x) vs = wipe σ vs
  | [], h => by cases h
  | v :: vs, h => by
    unfold wipe
    by_cases e : i ∈ vs
    · rw [wipe_set e]
    · have e' : i = v := by
        rcases List.mem_cons.mp h with q | q
        · exact q
        · exact absurd q e
      subst e'
      have hc : ∀ {ws : List Nat} {σ : L2.St}, i ∉ ws → wipe (σ.set i x) ws = (wipe σ ws).set i x := by
        intro ws
        induction ws with
        | nil => intro σ _; rfl
        | cons z ws ih =>
          intro σ hn
          have h1 : i ≠ z := fun q => hn (by rw [q]; exact List.mem_cons_self)
          have h2 : i ∉ ws := fun q => hn (List.mem_cons_of_mem _ q)
          unfold wipe
          rw [ih h2, List.set_comm _ _ h1]
      rw [hc e, List.set_set]
theorem wipe_setAll {vs : List Nat} : ∀ {L : List (Nat × V)} {σ : L2.St}, (∀ p ∈ L, p.1 ∈ vs) → wipe (setAll σ L) vs = wipe σ vs
  | [], _, _ => rfl
  | p :: L, σ, h => by
    show wipe (setAll (σ.set p.1 (some p.2)) L) vs = _
    rw [wipe_setAll (fun q m => h q (List.mem_cons_of_mem _ m)), wipe_set (h p List.mem_cons_self)]
theorem wipe_wipe {vs : List Nat} : ∀ {ws : List Nat} {σ : L2.St}, (∀ i ∈ ws, i ∈ vs) → wipe (wipe σ ws) vs = wipe σ vs
  | [], _, _ => rfl
  | w :: ws, σ, h => by
    show wipe ((wipe σ ws).set w none) vs = _
    rw [wipe_set (h w List.mem_cons_self), wipe_wipe fun i m => h i (List.mem_cons_of_mem _ m)]
section
variable {c : Ctx} {ρ : Rho} {g : c.S} {P P' : EV → c.S → Prop} {te ta tb tc tl : TE} {t u tt : TT} {I H : Hp} {Q : VK}
/-- a comprehension, by an invariant over the list so far -/
theorem pv_lc {wi : TI} {gt : TG} {js vs : List Nat}
    (h : PIt c wi gt js ρ g fun n f g1 => (∀ j ∈ js, j ∈ vs) ∧ n < sizeLine ∧ ∃ Inv : Nat → List PyData → c.S → Prop, Inv 0 [] g1 ∧
      (∀ i acc g2, i < n → acc.length ≤ i → Inv i acc g2 → PB c tt (f i (wipeR ρ vs)) g2 fun b g3 => if b = true then PV c te (f i (wipeR ρ vs)) g3 (fun e g4 => ∃ d, e = .d d ∧ Inv (i + 1) (acc ++ [d]) g4) else Inv (i + 1) acc g3) ∧
      (∀ acc g2, acc.length ≤ n → Inv n acc g2 → P (.d (.list acc)) g2)) : PV c (tLc wi gt tt te vs) ρ g P := fun σ I H ok en Q k =>
  h σ I H ok en _ fun J n f I1 H1 g1 s1 ok1 W ⟨hj, hn, Iv, i0, turn, fin⟩ D hD => by
    refine ⟨fun i m H' => m = n - i ∧ i ≤ n ∧ ∃ I' g' acc va, Step c I1 H1 g1 I' H' g' ∧ Ok c I' H' g' ∧ I' D = none ∧ ¬ c.M g' D ∧ H' D = some (.lst va) ∧ DpAll c.K I' va acc ∧ acc.length ≤ i ∧ Iv i acc g',
      ⟨n, by simp, Nat.zero_le _, I1, g1, [], [], Step.grow hD, ok1.grow hD, ok1.free hD, fun m => c.mh g1 I1 H1 D ok1.j m hD, upd_same, .nil, Nat.le_refl _, i0⟩, ?_⟩
    rintro i m H' ⟨rfl, hi, I', g', acc, va, s', ok', hID, hMD, hHD, ha, hl, inv⟩
    have hDn : H' D ≠ none := by rw [hHD]; simp
    by_cases hlt : i < n
    · refine .inr ⟨W.go i I' H' g' s'.im ok' hlt, fun H5 => n - (i + 1) < n - i ∧ ∃ I' g' acc va, Step c I1 H1 g1 I' H5 g' ∧ Ok c I' H5 g' ∧ I' D = none ∧ ¬ c.M g' D ∧ H5 D = some (.lst va) ∧ DpAll c.K I' va acc ∧ acc.length ≤ i + 1 ∧ Iv (i + 1) acc g',
        fun H5 q => ⟨n - (i + 1), q.1, rfl, hlt, q.2⟩, fun x H2 hy => ?_⟩
      have en' : EnvOk c.K I' (wipe σ vs) (wipeR ρ vs) := (en.mono (s1.im.trans s'.im)).wipe vs
      refine W.yld i I' H' g' x H2 s'.im ok' hlt hy _ _ en' _ fun L I2 H3 hL s2 ok2 en2 => ?_
      refine ⟨by rw [wipe_setAll (fun p m => hj _ (hL p m)), wipe_wipe fun _ m => m], ?_⟩
      have nM : ∀ {I2 H2 g2}, Step c I' H' g' I2 H2 g2 → ¬ c.M g2 D := fun s m => by
        rcases s.mm D m with q | q
        · exact hMD q
        · exact hDn q
      refine turn i acc g' hlt hl inv _ I2 H3 ok2 en2 _ fun b I3 H4 g3 s3 ok3 p3 => ?_
      cases b with
      | true =>
        rw [if_pos rfl] at p3 ⊢
        refine p3 _ I3 H4 ok3 (en2.mono s3.im) _ fun y I4 H5 g4 e s4 ok4 r4 ⟨d, e1, p4⟩ => ?_
        subst e1
        have sA := (s2.trans s3).trans s4
        have hID4 : I4 D = none := sA.out D _ hHD rfl hID hMD
        have hHD4 : H5 D = some (.lst va) := sA.keep D _ hHD hMD
        have hM4 := nM sA
        have lv : va.length = acc.length := dpAll_len ha
        refine ⟨va, hHD4, by rw [lv]; omega, by omega, I4, g4, acc ++ [d], va ++ [y], ?_, ?_, hID4, hM4, upd_same, dpAll_append (dpAll_mono sA.im _ _ ha) (.cons r4 .nil), by rw [List.length_append]; simp; omega, p4⟩
        · have sB := s'.trans sA
          refine ⟨sB.im, fun a o ho hm => ?_, sB.out, sB.mm, fun a ho => ?_⟩
          · have ne : a ≠ D := fun z => by rw [z, hD] at ho; cases ho
            rw [upd_ne ne]; exact sB.keep a o ho hm
          · have ne : a ≠ D := fun z => ho (by rw [z]; exact hD)
            rw [upd_ne ne]; exact sB.there a ho
        · refine ⟨fun a o ho => ?_, c.jm g4 I4 I4 H5 _ ok4.j (Ex.refl I4) fun a m => upd_ne fun z => hM4 (by rw [← z]; exact m), ok4.out⟩
          have ne : a ≠ D := fun z => by rw [z, hID4] at ho; cases ho
          rw [upd_ne ne]; exact ok4.ex a o ho
      | false =>
        rw [if_neg Bool.false_ne_true] at p3 ⊢
        have sA := s2.trans s3
        exact ⟨by omega, I3, g3, acc, va, s'.trans sA, ok3, sA.out D _ hHD rfl hID hMD, nM sA, sA.keep D _ hHD hMD, dpAll_mono sA.im _ _ ha, by omega, p3⟩
    · have e : i = n := by omega
      subst e
      refine .inl ⟨W.stop i I' H' g' s'.im ok' rfl, ?_⟩
      refine k _ (upd I' D (.lst va)) H' g' (.d (.list acc)) (s1.trans ⟨s'.im.trans (Ex.new hID), s'.keep, fun a o ho ht hI hm => ?_, s'.mm, s'.there⟩) ⟨fun a o ho => ?_, c.jm g' I' _ H' H' ok'.j (Ex.new hID) fun _ _ => rfl, fun a m => ?_⟩ (Dp.lst (.inl (.inl upd_same)) (dpAll_mono (Ex.new hID) _ _ ha)) (fin acc g' hl inv)
      · have ne : a ≠ D := fun z => by rw [z, hD] at ho; cases ho
        rw [upd_ne ne]; exact s'.out a o ho ht hI hm
      · by_cases z : a = D
        · rw [z] at ho ⊢
          rw [upd_same] at ho
          rw [hHD]; exact ho
        · rw [upd_ne z] at ho; exact ok'.ex a o ho
      · have ne : a ≠ D := fun z => hMD (by rw [← z]; exact m)
        rw [upd_ne ne]; exact ok'.out a m
/-- a for -/
theorem ps_for {wi : TI} {gt : TG} {js : List Nat} {tb : TS} {Pn : Rho → c.S → Prop} {Pr : EV → c.S → Prop}
    (h : PIt c wi gt js ρ g fun n f g1 => ∃ Inv : Nat → Rho → c.S → Prop, Inv 0 ρ g1 ∧ (∀ i ρ2 g2, i < n → Inv i ρ2 g2 → PSt c tb (f i ρ2) g2 (fun ρ3 g3 => Inv (i + 1) ρ3 g3) Pr) ∧ (∀ ρ2 g2, Inv n ρ2 g2 → Pn ρ2 g2)) :
    PSt c (tFor wi gt tb) ρ g Pn Pr := fun σ I H ok en D kn kr =>
  h σ I H ok en _ fun J n f I1 H1 g1 s1 ok1 W ⟨Iv, i0, turn, fin⟩ => by
    refine ⟨fun i m σ' H' => m = n - i ∧ i ≤ n ∧ ∃ I' g' ρ', Step c I1 H1 g1 I' H' g' ∧ Ok c I' H' g' ∧ EnvOk c.K I' σ' ρ' ∧ Iv i ρ' g', ⟨n, by simp, Nat.zero_le _, I1, g1, ρ, Step.refl, ok1, en.mono s1.im, i0⟩, ?_⟩
    rintro i m σ' H' ⟨rfl, hi, I', g', ρ', s', ok', en', inv⟩
    by_cases hlt : i < n
    · refine .inr ⟨W.go i I' H' g' s'.im ok' hlt, fun σ5 H5 => ∃ I' g' ρ', Step c I1 H1 g1 I' H5 g' ∧ Ok c I' H5 g' ∧ EnvOk c.K I' σ5 ρ' ∧ Iv (i + 1) ρ' g', fun σ5 H5 q => ⟨n - (i + 1), by omega, rfl, hlt, q⟩, fun x H2 hy => ?_⟩
      refine W.yld i I' H' g' x H2 s'.im ok' hlt hy _ _ en' _ fun L I2 H3 hL s2 ok2 en2 => ?_
      refine turn i ρ' g' hlt inv _ I2 H3 ok2 en2 _ (fun σ4 I4 H4 g4 ρ4 s4 ok4 en4 p4 => ⟨I4, g4, ρ4, s'.trans (s2.trans s4), ok4, en4, p4⟩) fun v I4 H4 g4 e s4 ok4 r4 p4 => kr v I4 H4 g4 e (s1.trans (s'.trans (s2.trans s4))) ok4 r4 p4
    · have e : i = n := by omega
      subst e
      exact .inl ⟨W.stop i I' H' g' s'.im ok' rfl, kn σ' I' H' g' ρ' (s1.trans s') ok' en' (fin ρ' g' inv)⟩
/-- a turn's store of one name -/
def seqR (j : Nat) (es : Nat → Option EV) (i : Nat) (r : Rho) : Rho := match es i with | some e => r.set j (some e) | none => r
theorem seqR_at {j i : Nat} {es : Nat → Option EV} {r : Rho} {e : EV} (h : es i = some e) : seqR j es i r = r.set j (some e) := by unfold seqR; rw [h]
abbrev dsE (ds : List PyData) : Nat → Option EV := fun i => (ds[i]?).map EV.d
abbrev stE (z : Str) : Nat → Option EV := fun i => (z.cps[i]?).map fun n => EV.d (.str ⟨#[n]⟩)
theorem dsR_at {j i : Nat} {ds : List PyData} {r : Rho} {x : PyData} (h : ds[i]? = some x) : seqR j (dsE ds) i r = r.set j (some (.d x)) := seqR_at (by show (ds[i]?).map EV.d = _; rw [h]; rfl)
theorem stR_at {j i : Nat} {z : Str} {r : Rho} {n : Nat} (h : z.cps[i]? = some n) : seqR j (stE z) i r = r.set j (some (.d (.str ⟨#[n]⟩))) := seqR_at (by show (z.cps[i]?).map _ = _; rw [h]; rfl)
/-- over a tuple told as data, one name -/
theorem pit_tup {j : Nat} {P : Nat → (Nat → Rho → Rho) → c.S → Prop} (h : PV c tl ρ g fun e g1 => ∃ ds, e = .d (.tuple ds) ∧ P ds.length (seqR j (dsE ds)) g1) :
    PIt c (iTup c.K tl) (gName j) [j] ρ g P := fun σ I H ok en R k =>
  h σ I H ok en _ fun v I1 H1 g1 e s1 ok1 r1 ⟨ds, e1, p1⟩ => by
    subst e1
    cases r1 with
    | @tup a xs _ hx ax =>
      have hl := dpAll_len ax
      refine ⟨a, rfl, ⟨xs, ok1.ex.seqT hx⟩, k _ ds.length _ I1 H1 g1 s1 ok1 ⟨fun i I H g e ok hn => ⟨xs, ok.ex.seqT (e.seqT hx), by omega⟩, fun i I H g e ok hn => ?_, fun i I H g x H' e ok hn hy σ ρ en Q kq => ?_⟩ p1⟩
      · obtain ⟨v, hv, _⟩ := dpAll_get ax (List.getElem?_eq_getElem hn)
        exact ⟨xs, v, ok.ex.seqT (e.seqT hx), hv⟩
      · obtain ⟨hH, hy⟩ := hy
        subst hH
        have hv := hy xs (ok.ex.seqT (e.seqT hx))
        obtain ⟨v, hv', r⟩ := dpAll_get ax (List.getElem?_eq_getElem hn)
        rw [hv] at hv'
        cases hv'
        refine kq [(j, x)] I H' (by simp) Step.refl ok ?_
        rw [dsR_at (List.getElem?_eq_getElem hn)]
        exact en.set j (e := .d ds[i]) (dp_mono e _ _ r)
theorem pit_lst {j : Nat} {P : Nat → (Nat → Rho → Rho) → c.S → Prop} (h : PV c tl ρ g fun e g1 => ∃ ds, e = .d (.list ds) ∧ P ds.length (seqR j (dsE ds)) g1) :
    PIt c (iList c.K tl) (gName j) [j] ρ g P := fun σ I H ok en R k =>
  h σ I H ok en _ fun v I1 H1 g1 e s1 ok1 r1 ⟨ds, e1, p1⟩ => by
    subst e1
    cases r1 with
    | @lst a xs _ hx ax =>
      have hl := dpAll_len ax
      refine ⟨a, rfl, ⟨xs, ok1.ex.seqL hx⟩, k _ ds.length _ I1 H1 g1 s1 ok1 ⟨fun i I H g e ok hn => ⟨xs, ok.ex.seqL (e.seqL hx), by omega⟩, fun i I H g e ok hn => ?_, fun i I H g x H' e ok hn hy σ ρ en Q kq => ?_⟩ p1⟩
      · obtain ⟨v, hv, _⟩ := dpAll_get ax (List.getElem?_eq_getElem hn)
        exact ⟨xs, v, ok.ex.seqL (e.seqL hx), hv⟩
      · obtain ⟨hH, hy⟩ := hy
        subst hH
        have hv := hy xs (ok.ex.seqL (e.seqL hx))
        obtain ⟨v, hv', r⟩ := dpAll_get ax (List.getElem?_eq_getElem hn)
        rw [hv] at hv'
        cases hv'
        refine kq [(j, x)] I H' (by simp) Step.refl ok ?_
        rw [dsR_at (List.getElem?_eq_getElem hn)]
        exact en.set j (e := .d ds[i]) (dp_mono e _ _ r)
/-- over a text, sign by sign -/
theorem pit_str {j : Nat} {P : Nat → (Nat → Rho → Rho) → c.S → Prop} (h : PV c tl ρ g fun e g1 => ∃ z : Str, e = .d (.str z) ∧ P z.cps.size (seqR j (stE z)) g1) :
    PIt c (iStr tl) (gName j) [j] ρ g P := fun σ I H ok en R k =>
  h σ I H ok en _ fun v I1 H1 g1 e s1 ok1 r1 ⟨z, e1, p1⟩ => by
    subst e1
    cases r1
    refine ⟨z, rfl, k _ z.cps.size _ I1 H1 g1 s1 ok1 ⟨fun i I H g e ok hn => Nat.le_of_eq hn.symm, fun i I H g e ok hn => hn, fun i I H g x H' e ok hn hy σ ρ en Q kq => ?_⟩ p1⟩
    obtain ⟨hH, n, hn', hx⟩ := hy
    subst hH hx
    refine kq [(j, _)] I H' (by simp) Step.refl ok ?_
    rw [stR_at hn']
    exact en.set j (e := .d (.str ⟨#[n]⟩)) (Dp.str _)
/-- over range(n), range(a, b) -/
theorem walk_range {j : Nat} {lo : Int} {n : Nat} {I1 : Hp} : Walk c (Itr lo n) (gName j) [j] n (fun i r => r.set j (some (.d (.int (lo + i))))) I1 :=
  ⟨fun i I H g e ok hn => Nat.le_of_eq hn.symm, fun i I H g e ok hn => hn, fun i I H g x H' e ok hn hy σ ρ en Q kq => by
    obtain ⟨hH, hx⟩ := hy
    subst hH hx
    exact kq [(j, _)] I H' (by simp) Step.refl ok (en.set j (e := .d (.int (lo + i))) (Dp.int _))⟩
theorem pit_rng1 {j : Nat} {ta : TA} {P : Nat → (Nat → Rho → Rho) → c.S → Prop} (h : PAs c ta ρ g fun es g1 => ∃ n : Int, es = [.d (.int n)] ∧ -(2 ^ 62) ≤ n ∧ n < 2 ^ 62 ∧ P n.toNat (fun i r => r.set j (some (.d (.int (0 + i))))) g1) :
    PIt c (iRng1 ta) (gName j) [j] ρ g P := fun σ I H ok en R k =>
  h σ I H ok en _ fun vs I1 H1 g1 es s1 ok1 r1 ⟨n, e1, h1, h2, p1⟩ => by
    subst e1
    obtain ⟨v, e, r⟩ := one_of r1
    subst e
    cases r
    exact ⟨n, rfl, h1, h2, k _ _ _ I1 H1 g1 s1 ok1 walk_range p1⟩
end
end Dl
set_option Elab.async false
set_option linter.all false
set_option maxRecDepth 100000
set_option maxHeartbeats 4000000
namespace Dl
open PySem PySem.Spec PyProof.Rows L2
def ItzM (K : PySem.W.Frag) (a b : Addr) : It where
  go := fun i H => ∃ xs ys x y, SqL K H a xs ∧ SqT K H b ys ∧ xs[i]? = some x ∧ ys[i]? = some y
  yld := fun i H v H' => ∃ T x y, v = V.ref T ∧ H T = none ∧ H' = upd H T (.tup [x, y]) ∧ (∀ l, SqL K H a l → l[i]? = some x) ∧ (∀ l, SqT K H b l → l[i]? = some y)
  stop := fun i H => ∃ xs ys, SqL K H a xs ∧ SqT K H b ys ∧ i = min xs.length ys.length
theorem turn_zipM {P : Program} {w : World} {K : PySem.W.Frag} {elts : List Expr} {kk : Nat} {tpos : Pos} {a b z TI TO i1 i2 : Addr} (S : ZipSep2 z TI TO i1 i2 [i1, a] [i2, b]) (n1 : a ≠ i1) (n2 : b ≠ i2) :
    Turn P w K (.Tuple elts kk tpos) (ItzM K a b) [z, TI, TO, i1, i2] z (fun i h => IsZip h z TI TO .none ∧ IsTupOf2 h TI (.ref i1) (.ref i2) ∧ (∃ p q, IsTupOf2 h TO p q) ∧ h.IsListIter i1 a i ∧ h.IsTupleIter i2 b i) where
  mem := List.mem_cons_self
  obj := fun i h ⟨hz, hI, ⟨p, q, hO⟩, ⟨o1, e1, _, d1⟩, ⟨o2, e2, _, d2⟩⟩ c hc => by
    simp only [List.mem_cons, List.not_mem_nil, or_false] at hc
    rcases hc with e | e | e | e | e <;> subst e
    · exact ⟨_, hz, by intro v q; cases q⟩
    · exact ⟨_, hI, by intro v q; cases q⟩
    · exact ⟨_, hO, by intro v q; cases q⟩
    · exact ⟨o1, e1, by intro v q; rw [d1] at q; cases q⟩
    · exact ⟨o2, e2, by intro v q; rw [d2] at q; cases q⟩
  keep := fun i h h' ⟨hz, hI, ⟨p, q, hO⟩, h1, h2⟩ k =>
    ⟨k z (by simp) _ hz, k TI (by simp) _ hI, ⟨p, q, k TO (by simp) _ hO⟩, h1.at (fun o e => k i1 (by simp) o e), h2.at (fun o e => k i2 (by simp) o e)⟩
  item := by
    rintro X rfl rfl rfl hc i pins s σ H E I hf ⟨hz, hI, hO, h1, h2⟩ ⟨xs, ys, x, y, hqx, hqy, hx, hy⟩
    obtain ⟨its, rv, pl, _⟩ := I.list hqx
    obtain ⟨jts, rw_, pt, _⟩ := I.tuple hqy
    have hh : X.A.handled = none := I.ok.hd hc
    have G := GoesN.zip2 (prog := X.prog) (w := X.w) (A := X.A) (elts := elts) (x1 := kk) (pos := tpos) S (Draws.list (show X.A.in1.handled = none from hh) i1 a n1 its.toArray) (Draws.tuple (show X.A.in1.handled = none from hh) i2 b n2 jts.toArray)
    have li : i < its.length := by have := (List.getElem?_eq_some_iff.mp hx).1; have := rv.length; omega
    have lj : i < jts.length := by have := (List.getElem?_eq_some_iff.mp hy).1; have := rw_.length; omega
    refine thn (G.goes i s (fun v s2 => ∃ x H', Inv X pins σ H' s2 ∧ RelV x v ∧ (ItzM X.K a b).yld i H x H' ∧ (IsZip s2.heap z TI TO .none ∧ IsTupOf2 s2.heap TI (.ref i1) (.ref i2) ∧ (∃ p q, IsTupOf2 s2.heap TO p q) ∧ s2.heap.IsListIter i1 a (i + 1) ∧ s2.heap.IsTupleIter i2 b (i + 1)) ∧ ∀ c ∈ [z, TI, TO, i1, i2], H' c = none) E
      (by simp; omega) ⟨hz, hI, hO, ⟨h1, pl.isList⟩, ⟨h2, pt⟩⟩ ?_) fun r s1 ⟨v, hr, hv⟩ => ⟨v, hr, hv⟩
    rintro v h' tk ⟨T, u1, u2, rfl, hT, hu1, hu2, hTt⟩ ⟨gz, gI, gO, ⟨g1, _⟩, ⟨g2, _⟩⟩ kk' _
    obtain ⟨w1, hw1, r1⟩ := rv.get hx
    obtain ⟨w2, hw2, r2⟩ := rw_.get hy
    have e1 : u1 = w1 := by
      have q : its[i]? = some u1 := by simpa using hu1
      rw [hw1] at q; exact (Option.some.inj q).symm
    have e2 : u2 = w2 := by
      have q : jts[i]? = some u2 := by simpa using hu2
      rw [hw2] at q; exact (Option.some.inj q).symm
    subst e1 e2
    obtain ⟨oT, hoT, hcT, nT, hdT⟩ := hTt
    have new : ObjOk X.prog X.w (upd H T (.tup [x, y])) h' T (.tup [x, y]) := ⟨le_line (show 2 ≤ 1000000 by decide), [u1, u2], .cons r1 (.cons r2 .nil), oT, hoT, hcT, nT, hdT⟩
    refine ⟨.ref T, upd H T (.tup [x, y]), I.turnedNew (ch := [z, TI, TO, i1, i2]) (fun c o hn e => kk' c o (fun m => hn ?_) e) hf hT new, rfl, ⟨T, x, y, rfl, I.hok.fresh hT, rfl, fun l hl => by rw [I.list_inj hl hqx]; exact hx, fun l hl => by rw [I.tuple_inj hl hqy]; exact hy⟩, ⟨gz, gI, gO, g1, g2⟩, fun c m => ?_⟩
    · simp only [List.mem_cons, List.not_mem_nil, or_false] at m ⊢
      rcases m with e | e | e | e <;> simp [e]
    · have q := hf c m
      have lt : c < s.heap.objs.size := by
        obtain ⟨p, r, hO⟩ := hO
        simp only [List.mem_cons, List.not_mem_nil, or_false] at m
        rcases m with e | e | e | e | e <;> subst e
        · exact Heap.lt_size hz
        · exact Heap.lt_size hI
        · exact Heap.lt_size hO
        · obtain ⟨o, e, _⟩ := h1; exact Heap.lt_size e
        · obtain ⟨o, e, _⟩ := h2; exact Heap.lt_size e
      rw [upd_ne (Nat.ne_of_lt (Nat.lt_of_lt_of_le lt hT))]
      exact q.1
  done := by
    rintro X rfl rfl rfl hc i pins s σ H E I hf ⟨hz, hI, hO, h1, h2⟩ ⟨xs, ys, hqx, hqy, hend⟩
    obtain ⟨its, rv, pl, _⟩ := I.list hqx
    obtain ⟨jts, rw_, pt, _⟩ := I.tuple hqy
    have hh : X.A.handled = none := I.ok.hd hc
    have l1 := rv.length
    have l2 := rw_.length
    have G := GoesN.zip2 (prog := X.prog) (w := X.w) (A := X.A) (elts := elts) (x1 := kk) (pos := tpos) S (Draws.list (show X.A.in1.handled = none from hh) i1 a n1 its.toArray) (Draws.tuple (show X.A.in1.handled = none from hh) i2 b n2 jts.toArray)
    have ei : min its.toArray.size jts.toArray.size = i := by simp; omega
    refine G.stops s _ E (by rw [ei]; exact ⟨hz, hI, hO, ⟨h1, pl.isList⟩, ⟨h2, pt⟩⟩) fun h' tk kk' _ => I.turnedL (ch := [z, TI, TO, i1, i2]) (fun c o hn e => kk' c o (fun m => hn ?_) e) hf
    simp only [List.mem_cons, List.not_mem_nil, or_false] at m ⊢
    rcases m with e | e | e | e <;> simp [e]
  self := fun A i s Q E st h => wpAny_pyIter_zip st.1 h
/-- zip(e, e2): two tuples, or a list and a tuple -/
def iZipZ (K : PySem.W.Frag) (ta : TA) : TI := fun σ H R => ta σ H fun vs H1 => ∃ a b xs ys, vs = [V.ref a, V.ref b] ∧ SqT K H1 b ys ∧ ((SqT K H1 a xs ∧ R (RZ.ItzT K a b) H1) ∨ (SqL K H1 a xs ∧ R (ItzM K a b) H1))
theorem pi_zipY {X : Cx} {e e2 : Expr} {ta : TA} {p pos tpos : Pos} {elts : List Expr} {kk : Nat} (hg : Gl X "zip") (hm : X.mg "zip" = none) (ha : PA X [e, e2] ta)
    (q1 : starEach [e, e2] X.env = (false, eval e X.env) :: starEach [e2] X.env := by rfl) (q2 : (backTo pos (starEach [e2] X.env)).any (·.1) = false := by rfl) :
    PI X (.Tuple elts kk tpos) (.Call (.Name "zip" p) [e, e2] [] pos) (iZipZ X.K ta) := ⟨fun pins s σ H R I h =>
  Call_ (ld_blt I hg hm PyProof.Rows.boot_zip (PyProof.Rows.callWith_type1 (thn (ha.run pos pins s σ H _ I h) fun us s1 ⟨vs, H1, I1, r1, a, b, xs, ys, ex, hy, q⟩ => by
    subst ex
    obtain ⟨u1, u2, rfl, r, r'⟩ := vals2 r1
    cases r; cases r'
    obtain ⟨jts, rw_, pt, _⟩ := I1.tuple hy
    have lb : b < s1.heap.objs.size := by obtain ⟨o, e, _⟩ := pt; exact Heap.lt_size e
    have fr : ∀ c ∈ [s1.heap.objs.size + 4, s1.heap.objs.size + 2, s1.heap.objs.size + 3, s1.heap.objs.size, s1.heap.objs.size + 1], FpOk X pins H1 c := fun c m => by
      have le : s1.heap.objs.size ≤ c := by
        simp only [List.mem_cons, List.not_mem_nil, or_false] at m
        rcases m with e | e | e | e | e <;> rw [e] <;> first | exact Nat.le_refl _ | exact Nat.le_add_right _ _
      exact I1.fpOk le (I1.hok.fresh le)
    rcases q with ⟨hx, q⟩ | ⟨hx, q⟩
    · obtain ⟨its, rv, pu, _⟩ := I1.tuple hx
      have la : a < s1.heap.objs.size := by obtain ⟨o, e, _⟩ := pu; exact Heap.lt_size e
      exact RZ.call_zipT pu pt fun h' gz gI gO g1 g2 _ k => wpAny_pyIter_zip gz ⟨_, _, _, _, H1, rfl, I1.kept (t' := s1.toks) k, RZ.turn_zipT (PySem.W.ktu_apart _ a b la lb), ⟨gz, gI, ⟨_, _, gO⟩, g1, g2⟩, fr, q⟩
    · obtain ⟨its, rv, pl, _⟩ := I1.list hx
      refine zip_begins2 (begins_list a its.toArray) (begins_tuple b jts.toArray) pl.isList pt fun h' gz gI gO g1 g2 hsz k => wpAny_pyIter_zip gz ?_
      have la : a < s1.heap.objs.size := pl.lt
      have S := zip_sep2 (N := s1.heap.objs.size) (fp1 := [a]) (fp2 := [b]) (by simpa using la) (by simpa using lb)
      exact ⟨_, _, _, _, H1, rfl, I1.kept (t' := s1.toks) k, turn_zipM S (Nat.ne_of_lt la) (Nat.ne_of_lt (Nat.lt_succ_of_lt lb)), ⟨gz, gI, ⟨_, _, gO⟩, ⟨_, g1, rfl, rfl⟩, ⟨_, g2, rfl, rfl⟩⟩, fr, q⟩) q1 q2))⟩
theorem pi_zipZ {X : Cx} {K : PySem.W.Frag} {e e2 : Expr} {ta : TA} {p pos tpos : Pos} {elts : List Expr} {kk : Nat} (hg : Gl X "zip") (hm : X.mg "zip" = none) (ha : PA X [e, e2] ta)
    (q1 : starEach [e, e2] X.env = (false, eval e X.env) :: starEach [e2] X.env := by rfl) (q2 : (backTo pos (starEach [e2] X.env)).any (·.1) = false := by rfl) (ek : X.K = K := by rfl) :
    PI X (.Tuple elts kk tpos) (.Call (.Name "zip" p) [e, e2] [] pos) (iZipZ K ta) := by subst ek; exact pi_zipY hg hm ha q1 q2
section
variable {c : Ctx} {ρ : Rho} {g : c.S}
/-- the step of a zip's turn: two names -/
def zipR (a b : Nat) (fs : List EV) (ds : List EV) : Nat → Rho → Rho := fun i r => match fs[i]?, ds[i]? with
  | some x, some y => (r.set a (some x)).set b (some y)
  | _, _ => r
theorem zip_store {K : PySem.W.Frag} {I H : Hp} {a b : Nat} {x y : V} {ex ey : EV} {ok : Ok c I H g} {σ : L2.St} {ρ : Rho} {T : Addr} {Q : L2.St → Hp → Prop} (en : EnvOk c.K I σ ρ) (hT : H T = none) (rx : RelE c.K I x ex) (ry : RelE c.K I y ey)
    (kq : ∀ (L : List (Nat × V)) I2 H2, (∀ p ∈ L, p.1 ∈ [a, b]) → Step c I H g I2 H2 g → Ok c I2 H2 g → EnvOk c.K I2 (setAll σ L) ((ρ.set a (some ex)).set b (some ey)) → Q (setAll σ L) H2) :
    gTup c.K 2 (gCons (gName a) (gCons (gName b) gNil)) (.ref T) σ (upd H T (.tup [x, y])) Q :=
  ⟨T, [x, y], rfl, .inl (.inl upd_same), rfl, x, [y], rfl, y, [], rfl, rfl, kq [(a, x), (b, y)] I _ (by simp) (Step.grow hT) (ok.grow hT) ((en.set a rx).set b ry)⟩
/-- zip of a row of raw values and of a tuple told as data -/
theorem pit_zipRT {a b : Nat} {ta : TA} {P : Nat → (Nat → Rho → Rho) → c.S → Prop}
    (h : PAs c ta ρ g fun es g1 => ∃ fs ds, es = [.rl fs, .d (.tuple ds)] ∧ P (min fs.length ds.length) (zipR a b (fs.map .r) (ds.map .d)) g1) :
    PIt c (iZipZ c.K ta) (gTup c.K 2 (gCons (gName a) (gCons (gName b) gNil))) [a, b] ρ g P := fun σ I H ok en R k => by
  refine h σ I H ok en _ ?_
  rintro vs I1 H1 g1 es s1 ok1 r1 ⟨fs, ds, e1, p1⟩
  subst e1
  obtain ⟨v, u, e, ⟨p, ev, hp⟩, ru⟩ := two_of r1
  subst e ev
  cases ru with
  | @tup q ys _ hy ay =>
    have hl := dpAll_len ay
    refine ⟨p, q, fs, ys, rfl, ok1.ex.seqT hy, ?_⟩
    have yl : ∀ i (I : Hp) (H : Hp) (g : c.S) (σ : L2.St) (ρ : Rho) (T : Addr) (x y : V) (Q : L2.St → Hp → Prop), Ex I1 I → Ok c I H g → i < min fs.length ds.length → H T = none → fs[i]? = some x → ys[i]? = some y → EnvOk c.K I σ ρ →
        (∀ (L : List (Nat × V)) I2 H2, (∀ p ∈ L, p.1 ∈ [a, b]) → Step c I H g I2 H2 g → Ok c I2 H2 g → EnvOk c.K I2 (setAll σ L) (zipR a b (fs.map .r) (ds.map .d) i ρ) → Q (setAll σ L) H2) →
        gTup c.K 2 (gCons (gName a) (gCons (gName b) gNil)) (.ref T) σ (upd H T (.tup [x, y])) Q := by
      intro i I H g σ ρ T x y Q e ok hn hT hx hy' en kq
      have hd : i < ds.length := by omega
      obtain ⟨y', hy'', ry⟩ := dpAll_get ay (List.getElem?_eq_getElem hd)
      rw [hy'] at hy''
      cases hy''
      refine zip_store (K := c.K) (ok := ok) en hT (ex := .r x) (ey := .d ds[i]) rfl (dp_mono e _ _ ry) fun L I2 H2 hL s2 ok2 en2 => kq L I2 H2 hL s2 ok2 ?_
      have e2 : zipR a b (fs.map .r) (ds.map .d) i ρ = (ρ.set a (some (.r x))).set b (some (.d ds[i])) := by
        unfold zipR
        rw [List.getElem?_map, List.getElem?_map, hx, List.getElem?_eq_getElem hd]
        rfl
      rw [e2]; exact en2
    have get : ∀ i, i < min fs.length ds.length → ∃ x y, fs[i]? = some x ∧ ys[i]? = some y := fun i hi => ⟨fs[i]'(by omega), ys[i]'(by omega), List.getElem?_eq_getElem _, List.getElem?_eq_getElem _⟩
    rcases hp with hp | hp
    · refine .inr ⟨ok1.ex.seqL hp, k _ _ _ I1 H1 g1 s1 ok1 ⟨fun i I H g e ok hn => ?_, fun i I H g e ok hn => ?_, fun i I H g x H' e ok hn hY σ ρ en Q kq => ?_⟩ p1⟩
      · by_cases hi : i = min fs.length ys.length
        · exact ⟨fs, ys, ok.ex.seqL (e.seqL hp), ok.ex.seqT (e.seqT hy), hi⟩
        · exact absurd (by omega) hi
      · obtain ⟨x, y, hx, hy'⟩ := get i hn
        exact ⟨fs, ys, x, y, ok.ex.seqL (e.seqL hp), ok.ex.seqT (e.seqT hy), hx, hy'⟩
      · obtain ⟨T, x', y', ev, hT, eH, h1, h2⟩ := hY
        subst ev eH
        exact yl i I H g σ ρ T x' y' Q e ok hn hT (h1 fs (ok.ex.seqL (e.seqL hp))) (h2 ys (ok.ex.seqT (e.seqT hy))) en kq
    · refine .inl ⟨ok1.ex.seqT hp, k _ _ _ I1 H1 g1 s1 ok1 ⟨fun i I H g e ok hn => ⟨fs, ys, ok.ex.seqT (e.seqT hp), ok.ex.seqT (e.seqT hy), by omega⟩, fun i I H g e ok hn => ?_, fun i I H g x H' e ok hn hY σ ρ en Q kq => ?_⟩ p1⟩
      · obtain ⟨x, y, hx, hy'⟩ := get i hn
        exact ⟨fs, ys, x, y, ok.ex.seqT (e.seqT hp), ok.ex.seqT (e.seqT hy), hx, hy'⟩
      · obtain ⟨T, x', y', ev, hT, eH, h1, h2⟩ := hY
        subst ev eH
        exact yl i I H g σ ρ T x' y' Q e ok hn hT (h1 fs (ok.ex.seqT (e.seqT hp))) (h2 ys (ok.ex.seqT (e.seqT hy))) en kq
end
end Dl
set_option Elab.async false
set_option linter.all false
set_option maxRecDepth 100000
set_option maxHeartbeats 4000000
namespace L2
open PySem PySem.Spec PyProof.Rows
/-- a def that is called by its name -/
structure Def (P : Program) (w : World) (K : PySem.W.Frag) (mg : Str → Option Value) (base : Heap) (k : Nat) (x : Str) (f : Addr) (fd : FuncData) (ps : List Str) (sp : Sp) : Prop where
  ok : FnOk P w K mg base CX0 k f fd ps sp
  at_ : mg x = some (.ref f)
  kp : PySem.W.keepIn K (.ref f) = true
  bd : Binds K fd ps []
end L2
namespace Dl
open PySem PySem.Spec PyProof.Rows L2
/-- the built-in names are the built-ins' -/
structure Blt (mg : Str → Option Value) : Prop where
  isinstance_ : mg "isinstance" = none
  len_ : mg "len" = none
  all_ : mg "all" = none
  range_ : mg "range" = none
  zip_ : mg "zip" = none
  int_ : mg "int" = none
  str_ : mg "str" = none
  bool_ : mg "bool" = none
  tuple_ : mg "tuple" = none
  list_ : mg "list" = none
  abs_ : mg "abs" = none
  max_ : mg "max" = none
  enumerate_ : mg "enumerate" = none
  sorted_ : mg "sorted" = none
  sum_ : mg "sum" = none
  min_ : mg "min" = none
  any_ : mg "any" = none
  repr_ : mg "repr" = none
  ord_ : mg "ord" = none
  dict_ : mg "dict" = none
  set_ : mg "set" = none
  ValueError_ : mg "ValueError" = none
abbrev FT := (c : Ctx) → c.S → List EV → (EV → c.S → Prop) → Prop
/-- a promise about n arguments -/
abbrev FN (n : Nat) (F : FT) : FT := fun c g es P => es.length = n ∧ F c g es P
theorem paired_len {α β : Type} {R : α → β → Prop} : ∀ {xs : List α} {ys : List β}, Paired R xs ys → xs.length = ys.length
  | _, _, .nil => rfl
  | _, _, .cons _ t => by simp [paired_len t]
theorem lenF {K : PySem.W.Frag} {F : FT} {vs : List V} {H : Hp} {Q : VK} {E : XK} {n : Nat} (h : SpF K F vs H Q E) (l : ∀ c g es P, F c g es P → es.length = n) : vs.length = n := by
  obtain ⟨c, I, g, es, P, _, _, r, hF, _⟩ := h
  rw [paired_len r]; exact l c g es P hF
def startR (n : Nat) (es : List EV) : Rho := es.map some ++ List.replicate (n - es.length) none
theorem paired_get {K : PySem.W.Frag} {I : Hp} : ∀ {vs : List V} {es : List EV} {i : Nat} {e : EV}, Paired (RelE K I) vs es → es[i]? = some e → ∃ v, vs[i]? = some v ∧ RelE K I v e
  | _, _, i, e, .nil, h => by simp at h
  | _, _, 0, e, .cons r _, h => by simp at h; subst h; exact ⟨_, rfl, r⟩
  | _, _, i + 1, e, .cons _ t, h => by
    obtain ⟨v, a, b⟩ := paired_get (i := i) t (by simpa using h)
    exact ⟨v, by simpa using a, b⟩
theorem env_start {K : PySem.W.Frag} {I : Hp} {N : List Str} {vs : List V} {es : List EV} (r : Paired (RelE K I) vs es) : EnvOk K I (L2.start N vs) (startR N.length es) := by
  have hl := paired_len r
  refine ⟨by simp [L2.start, startR, hl], fun i e h => ?_⟩
  unfold startR at h
  unfold L2.start
  by_cases hi : i < es.length
  · rw [List.getElem?_append_left (by simpa using hi)] at h
    rw [List.getElem?_append_left (by simp [hl, hi])]
    rw [List.getElem?_map] at h ⊢
    cases q : es[i]? with
    | none => rw [q] at h; cases h
    | some e' =>
      rw [q] at h
      cases h
      obtain ⟨v, a, b⟩ := paired_get r q
      exact ⟨v, by rw [a]; rfl, b⟩
  · rw [List.getElem?_append_right (by simpa using Nat.le_of_not_lt hi)] at h
    rw [List.getElem?_replicate] at h
    split at h <;> cases h
theorem body_run {t : TS} {N : List Str} {vs : List V} {H I : Hp} {Q : VK} {c : Ctx} {g : c.S} {es : List EV} {P : EV → c.S → Prop} (ok : Ok c I H g) (r : Paired (RelE c.K I) vs es) (k : End c I H g P Q)
    (h : PSt c t (startR N.length es) g (fun _ g' => P (.d .none) g') P) : t { nx := fun _ H' => Q .non H', rt := Q } (L2.start N vs) H :=
  h _ I H ok (env_start r) _ (fun σ' I' H' g' ρ' s' ok' en' p => k _ I' H' g' (.d .none) s' ok' Dp.non p) k
/-- a judge: told data in, a flag out -/
abbrev FJ (pre : PyData → Bool) (p : PyData → Bool) : FT := FN 1 fun c g es P => ∃ d, es = [.d d] ∧ pre d = true ∧ P (.d (.bool (p d))) g
def any' : PyData → Bool := fun _ => true
def isIntP : PyData → Bool | .int _ => true | _ => false
theorem int_of {d : PyData} (h : isIntP d = true) : ∃ i, d = .int i := by cases d <;> first | exact ⟨_, rfl⟩ | cases h
def isCount : PyData → Bool | .int i => decide (0 ≤ i) | _ => false
def isBtw (a b : Int) : PyData → Bool | .int i => decide (a ≤ i) && decide (i ≤ b) | _ => false
def isTupN (n : Int) : PyData → Bool | .tuple ds => decide ((ds.length : Int) = n) | _ => false
abbrev F_is_integer : FT := FJ any' isIntP
abbrev F_is_count : FT := FJ any' isCount
abbrev F_is_between : FT := FN 3 fun c g es P => ∃ d a b, es = [.d d, .d (.int a), .d (.int b)] ∧ P (.d (.bool (isBtw a b d))) g
abbrev F_is_tuple_of : FT := FN 2 fun c g es P => ∃ d n, es = [.d d, .d (.int n)] ∧ P (.d (.bool (isTupN n d))) g
section
variable {c : Ctx} {g : c.S} {P : EV → c.S → Prop}
theorem use_FJ {pre p : PyData → Bool} {d : PyData} (h : pre d = true) (k : P (.d (.bool (p d))) g) : FJ pre p c g [.d d] P := ⟨rfl, d, rfl, h, k⟩
theorem use_is_between {d : PyData} {a b : Int} (k : P (.d (.bool (isBtw a b d))) g) : F_is_between c g [.d d, .d (.int a), .d (.int b)] P := ⟨rfl, d, a, b, rfl, k⟩
theorem use_is_tuple_of {d : PyData} {n : Int} (k : P (.d (.bool (isTupN n d))) g) : F_is_tuple_of c g [.d d, .d (.int n)] P := ⟨rfl, d, n, rfl, k⟩
theorem fin {x y : Bool} (k : P (.d (.bool x)) g) (e : x = y) : P (.d (.bool y)) g := e ▸ k
end
end Dl
set_option Elab.async false
set_option linter.all false
set_option maxRecDepth 100000
set_option maxHeartbeats 4000000
namespace Dl
open PySem PySem.Spec PyProof.Rows L2
section
variable {c : Ctx} {ρ : Rho} {g : c.S} {P : EV → c.S → Prop} {te ta tb tl : TE} {wi : TI} {gt : TG} {js vs : List Nat}
theorem map_range_succ {α : Type} (v : Nat → α) (i : Nat) : (List.range i).map v ++ [v i] = (List.range (i + 1)).map v := by rw [List.range_succ, List.map_append]; rfl
/-- a comprehension whose items are told by their place -/
theorem pv_lcM (h : PIt c wi gt js ρ g fun n f g1 => (∀ j ∈ js, j ∈ vs) ∧ n < sizeLine ∧ ∃ v : Nat → PyData, (∀ i, i < n → PV c te (f i (wipeR ρ vs)) g1 fun e g2 => e = .d (v i) ∧ g2 = g1) ∧ P (.d (.list ((List.range n).map v))) g1) :
    PV c (tLc wi gt tYes te vs) ρ g P := by
  refine pv_lc fun σ I H ok en R k => h σ I H ok en R fun J n f I1 H1 g1 s1 ok1 W ⟨hj, hn, v, hv, hp⟩ => k J n f I1 H1 g1 s1 ok1 W ⟨hj, hn, fun i acc g2 => acc = (List.range i).map v ∧ g2 = g1, ⟨rfl, rfl⟩, ?_, ?_⟩
  · rintro i acc g2 hi _ ⟨rfl, rfl⟩
    refine fun σ I H ok en Q kq => kq true I H g2 Step.refl ok ?_
    dsimp only
    rw [if_pos rfl]
    exact (hv i hi).imp fun e g3 ⟨e1, e2⟩ => ⟨v i, e1, map_range_succ v i, e2⟩
  · rintro acc g2 _ ⟨rfl, rfl⟩
    exact hp
/-- the same with a test -/
theorem pv_lcF {tt : TT} (h : PIt c wi gt js ρ g fun n f g1 => (∀ j ∈ js, j ∈ vs) ∧ n < sizeLine ∧ ∃ (q : Nat → Bool) (v : Nat → PyData), (∀ i, i < n → PB c tt (f i (wipeR ρ vs)) g1 fun b g2 => b = q i ∧ g2 = g1 ∧ (q i = true → PV c te (f i (wipeR ρ vs)) g1 fun e g2 => e = .d (v i) ∧ g2 = g1)) ∧ P (.d (.list (((List.range n).filter q).map v))) g1) :
    PV c (tLc wi gt tt te vs) ρ g P := by
  refine pv_lc fun σ I H ok en R k => h σ I H ok en R fun J n f I1 H1 g1 s1 ok1 W ⟨hj, hn, q, v, hv, hp⟩ => k J n f I1 H1 g1 s1 ok1 W ⟨hj, hn, fun i acc g2 => acc = ((List.range i).filter q).map v ∧ g2 = g1, ⟨rfl, rfl⟩, ?_, ?_⟩
  · rintro i acc g2 hi _ ⟨rfl, rfl⟩
    refine (hv i hi).imp ?_
    rintro b g3 ⟨rfl, rfl, hq⟩
    cases e : q i with
    | true =>
      dsimp only
      rw [if_pos rfl]
      exact (hq e).imp fun e' g3 ⟨e1, e2⟩ => ⟨v i, e1, by rw [List.range_succ, List.filter_append, List.map_append]; simp [e], e2⟩
    | false =>
      dsimp only
      rw [if_neg Bool.false_ne_true]
      exact ⟨by rw [List.range_succ, List.filter_append, List.map_append]; simp [e], rfl⟩
  · rintro acc g2 _ ⟨rfl, rfl⟩
    exact hp
/-- all([..]) -/
theorem pv_all (h : PIt c wi gt js ρ g fun n f g1 => (∀ j ∈ js, j ∈ vs) ∧ n < sizeLine ∧ ∃ q : Nat → Bool, (∀ i, i < n → PV c te (f i (wipeR ρ vs)) g1 fun e g2 => e = .d (.bool (q i)) ∧ g2 = g1) ∧ P (.d (.bool ((List.range n).all q))) g1) :
    PV c (tCB (rAll c.K) (tCons (tLc wi gt tYes te vs) tNil)) ρ g P := by
  refine pv_cb (pas_cons (pv_lcM fun σ I H ok en R k => h σ I H ok en R fun J n f I1 H1 g1 s1 ok1 W ⟨hj, hn, q, hv, hp⟩ => k J n f I1 H1 g1 s1 ok1 W ⟨hj, hn, fun i => .bool (q i), hv, pas_nil ?_⟩))
  have e : (List.range n).map (fun i => PyData.bool (q i)) = ((List.range n).map q).map .bool := by rw [List.map_map]; rfl
  rw [e]
  refine oc_all ?_
  have e2 : ((List.range n).map q).all id = (List.range n).all q := by rw [List.all_map]; rfl
  rw [e2]; exact hp
def intsD (a b : Int) : List PyData := (List.range (b - a).toNat).map fun i => .int (a + (i : Nat))
theorem pv_listRg2 (h : PV c ta ρ g fun x g1 => PV c tb ρ g1 fun y g2 => ∃ i j, x = .d (.int i) ∧ y = .d (.int j) ∧ RgOk i j ∧ P (.d (.list (intsD i j))) g2) : PV c (tLstRg (tRg2 ta tb)) ρ g P := fun σ I H ok en Q k =>
  h σ I H ok en _ fun v I1 H1 g1 x s1 ok1 r1 p1 => p1 σ I1 H1 ok1 (en.mono s1.im) _ fun u I2 H2 g2 y s2 ok2 r2 ⟨i, j, e1, e2, hr, p2⟩ => by
    subst e1 e2
    cases r1; cases r2
    refine ⟨i, j, rfl, rfl, hr, fun q hq => k _ (upd I2 q (.lst (rgV i j))) _ g2 (.d (.list (intsD i j))) ((s1.trans s2).trans (Step.new ok2 hq)) (ok2.new hq) (Dp.lst (.inl (.inl upd_same)) ?_) p2⟩
    have e : intsD i j = ((List.range (j - i).toNat).map fun n => (i + (n : Nat) : Int)).map .int := by unfold intsD; rw [List.map_map]; rfl
    have e' : rgV i j = ((List.range (j - i).toNat).map fun n => (i + (n : Nat) : Int)).map V.int := by unfold rgV; rw [List.map_map]; rfl
    rw [e, e']
    exact dpAll_ofInts _
theorem o_isntB {a b : Bool} (p : P (.d (.bool (!decide (a = b)))) g) : O2 c rNotB (.d (.bool a)) (.d (.bool b)) g P := fun I H xv yv ok rx ry Q k => by
  cases rx; cases ry
  exact ⟨a, b, rfl, rfl, k.here (e := .d (.bool _)) ok (Dp.bl _) p⟩
theorem ps_un3 {i j l : Nat} {Pn : Rho → c.S → Prop} {Pr : EV → c.S → Prop} (h : PV c te ρ g fun e g1 => ∃ x y z, e = .d (.tuple [x, y, z]) ∧ Pn (((ρ.set i (some (.d x))).set j (some (.d y))).set l (some (.d z))) g1) :
    PSt c (tAsg te (gTup c.K 3 (gCons (gName i) (gCons (gName j) (gCons (gName l) gNil))))) ρ g Pn Pr := fun σ I H ok en D kn kr =>
  h σ I H ok en _ fun v I1 H1 g1 e s1 ok1 r1 ⟨x, y, z, e1, p1⟩ => by
    subst e1
    cases r1 with
    | @tup a xs _ hx ax =>
      cases ax with
      | cons h1 ax =>
        cases ax with
        | cons h2 ax =>
          cases ax with
          | cons h3 ax =>
            cases ax
            exact ⟨a, _, rfl, ok1.ex.seqT hx, rfl, _, _, rfl, _, _, rfl, _, _, rfl, rfl, kn _ I1 H1 g1 _ s1 ok1 ((((en.mono s1.im).set i (e := .d x) h1).set j (e := .d y) h2).set l (e := .d z) h3) p1⟩
end
def isNumber : PyData → Bool | .int i => decide (1 ≤ i) | _ => false
def isClient : PyData → Bool := isBtw 1 9
def lows : Str := "abcdefghijklmnopqrstuvwxyz"
def isName : PyData → Bool | .str x => decide (1 ≤ (x.length : Int)) && (decide ((x.length : Int) ≤ 8) && x.cps.toList.all fun n => decide (n ∈ lows.cps.toList)) | _ => false
def isSign (n : Nat) : Bool := decide (32 ≤ n) && decide (n ≤ 126)
def isText : PyData → Bool | .str x => decide ((x.length : Int) ≤ 96) && x.cps.toList.all isSign | _ => false
def isContent : PyData → Bool | .none => true | d => isText d
def isStamp : PyData → Bool
  | .tuple [.int a, .int b, .int n] => decide (0 ≤ a) && decide (0 ≤ b) && decide (0 ≤ n) && ((decide (a = 0) && decide (b = 0) && decide (n = 0)) || (decide (1 ≤ a) && (decide (1 ≤ b) && decide (b ≤ 9)) && decide (1 ≤ n)))
  | _ => false
def isBase : PyData → Bool | .none => true | d => isStamp d
def isWord : PyData → Bool | .tuple (.str _ :: _) => true | _ => false
def allP : List PyData → List (PyData → Bool) → Bool
  | [], [] => true
  | d :: ds, p :: ps => p d && allP ds ps
  | _, _ => false
theorem allP_len : ∀ {ds : List PyData} {ps : List (PyData → Bool)}, allP ds ps = true → ds.length = ps.length
  | [], [], _ => rfl
  | d :: ds, p :: ps, h => by
    rw [allP, Bool.and_eq_true] at h
    simp [allP_len h.2]
  | [], _ :: _, h => by simp [allP] at h
  | _ :: _, [], h => by simp [allP] at h
/-- the i-th judge's word of the i-th item -/
def judgeAt (ps : List (PyData → Bool)) (ds : List PyData) (i : Nat) : Bool := match ps[i]?, ds[i]? with | some p, some d => p d | _, _ => true
theorem allP_range : ∀ {ds : List PyData} {ps : List (PyData → Bool)}, ds.length = ps.length → (List.range (min ps.length ds.length)).all (judgeAt ps ds) = allP ds ps
  | [], [], _ => rfl
  | d :: ds, p :: ps, h => by
    have h' : ds.length = ps.length := by simpa using h
    have e : min (p :: ps).length (d :: ds).length = min ps.length ds.length + 1 := by simp only [List.length_cons]; omega
    rw [e, List.range_succ_eq_map, List.all_cons, List.all_map, allP, ← allP_range h']
    rfl
  | [], _ :: _, h => by simp at h
  | _ :: _, [], h => by simp at h
abbrev Tab := Addr → Option (PyData → Bool)
def Judges (tab : Tab) (fs : List V) (ps : List (PyData → Bool)) : Prop := Paired (fun f p => ∃ a, f = V.ref a ∧ tab a = some p) fs ps
abbrev F_are_all (tab : Tab) : FT := FN 2 fun c g es P => ∃ ds fs ps, es = [.d (.tuple ds), .rl fs] ∧ Judges tab fs ps ∧ fit (.tuple ds) = true ∧ P (.d (.bool (allP ds ps))) g
/-- the promise that goes with the address of a judge -/
def judgeS (K : PySem.W.Frag) (tab : Tab) : Addr → Option Sp := fun a => (tab a).map fun p => SpF K (FJ fit p)
abbrev editTests : Str → Option (List (PyData → Bool)) := fun w =>
  if ("put" : Str) = w then some [isText] else if ("splice" : Str) = w then some [isCount, isCount, isText] else if ("remove" : Str) = w then some [] else if ("take" : Str) = w then some [isName] else
  if ("adopt" : Str) = w then some [isClient, isNumber] else if ("drop" : Str) = w then some [isClient, isNumber] else none
def byWord (tests : Str → Option (List (PyData → Bool))) : PyData → Bool
  | .tuple (.str w :: r) => (match tests w with | some ps => allP r ps | none => false)
  | _ => false
def isEdit : PyData → Bool := byWord editTests
theorem str_of {d : PyData} (h : isStr d = true) : ∃ x, d = .str x := by cases d <;> first | exact ⟨_, rfl⟩ | cases h
theorem tup_of {d : PyData} (h : isTup d = true) : ∃ x, d = .tuple x := by cases d <;> first | exact ⟨_, rfl⟩ | cases h
theorem lt_line {n : Nat} (h : n ≤ 1000000) : n < sizeLine := Nat.lt_of_le_of_lt h (by rw [sizeLine_eq]; decide)
theorem pv_one {c : Ctx} {ρ : Rho} {g : c.S} {te : TE} {P : EV → c.S → Prop} (h : PV c te ρ g P) : PV c te ρ g P := h
theorem sign_lo (n : Nat) : (!decide ((⟨#[n]⟩ : Str).cps.toList < (Str.ofString " ").cps.toList)) = decide (32 ≤ n) := by
  have e : (Str.ofString " ").cps.toList = [32] := by decide +kernel
  rw [e]
  have : (([n] : List Nat) < [32]) ↔ n < 32 := by rw [List.cons_lt_cons_iff]; simp
  by_cases h : n < 32
  · rw [decide_eq_true (this.mpr h), decide_eq_false (by omega)]; rfl
  · rw [decide_eq_false (fun q => h (this.mp q)), decide_eq_true (by omega)]; rfl
theorem sign_hi (n : Nat) : (!decide ((Str.ofString "~").cps.toList < (⟨#[n]⟩ : Str).cps.toList)) = decide (n ≤ 126) := by
  have e : (Str.ofString "~").cps.toList = [126] := by decide +kernel
  rw [e]
  have : (([126] : List Nat) < [n]) ↔ 126 < n := by rw [List.cons_lt_cons_iff]; simp
  by_cases h : 126 < n
  · rw [decide_eq_true (this.mpr h), decide_eq_false (by omega)]; rfl
  · rw [decide_eq_false (fun q => h (this.mp q)), decide_eq_true (by omega)]; rfl
/-- a question put to the i-th item -/
def itemAt (xs : List PyData) (q : PyData → Bool) (i : Nat) : Bool := match xs[i]? with | some d => q d | none => true
theorem itemAt_of {xs : List PyData} {q : PyData → Bool} {i : Nat} {x : PyData} (h : xs[i]? = some x) : itemAt xs q i = q x := by unfold itemAt; rw [h]
theorem itemAt_all (xs : List PyData) (q : PyData → Bool) : (List.range xs.length).all (itemAt xs q) = xs.all q := by
  rw [Bool.eq_iff_iff, List.all_eq_true, List.all_eq_true]
  constructor
  · intro h x hx
    obtain ⟨i, hi, e⟩ := List.getElem_of_mem hx
    have := h i (List.mem_range.mpr hi)
    rw [itemAt_of (List.getElem?_eq_getElem hi), e] at this
    exact this
  · intro h i hi
    have hi' := List.mem_range.mp hi
    rw [itemAt_of (List.getElem?_eq_getElem hi')]
    exact h _ (List.getElem_mem hi')
theorem count_of {d : PyData} (h : isCount d = true) : ∃ i, d = .int i ∧ 0 ≤ i := by
  cases d with
  | int i => exact ⟨i, rfl, of_decide_eq_true h⟩
  | _ => cases h
/-- a question put to the i-th sign -/
def signAt (x : Str) (q : Nat → Bool) (i : Nat) : Bool := match x.cps[i]? with | some n => q n | none => true
theorem signAt_all (x : Str) (q : Nat → Bool) : (List.range x.cps.size).all (signAt x q) = x.cps.toList.all q := by
  rw [Bool.eq_iff_iff, List.all_eq_true, List.all_eq_true]
  constructor
  · intro h n hn
    obtain ⟨i, hi, e⟩ := List.getElem_of_mem hn
    have hi' : i < x.cps.size := by simpa using hi
    have := h i (List.mem_range.mpr hi')
    have e2 : x.cps[i]? = some n := by rw [← e]; simp [hi']
    rw [signAt, e2] at this
    exact this
  · intro h i hi
    have hi' := List.mem_range.mp hi
    rw [signAt, Array.getElem?_eq_getElem hi']
    exact h _ (by simp)
section
variable {c : Ctx} {ρ : Rho} {g : c.S} {P : EV → c.S → Prop} {te tl : TE} {vs : List Nat} {j : Nat}
def mapAt (v : PyData → PyData) (ds : List PyData) (i : Nat) : PyData := match ds[i]? with | some d => v d | none => .none
theorem mapAt_of {v : PyData → PyData} {ds : List PyData} {i : Nat} {x : PyData} (h : ds[i]? = some x) : mapAt v ds i = v x := by unfold mapAt; rw [h]
theorem mapAt_map (v : PyData → PyData) (ds : List PyData) : (List.range ds.length).map (mapAt v ds) = ds.map v := by
  apply List.ext_getElem (by simp)
  intro i h1 h2
  have hi : i < ds.length := by simpa using h1
  simp [mapAt, List.getElem?_eq_getElem hi]
theorem filterAt_map (q : PyData → Bool) (v : PyData → PyData) (ds : List PyData) : ((List.range ds.length).filter (itemAt ds q)).map (mapAt v ds) = (ds.filter q).map v := by
  induction ds with
  | nil => rfl
  | cons d ds ih =>
    rw [List.length_cons, List.range_succ_eq_map, List.filter_cons, List.filter_map, List.filter_cons]
    have e1 : itemAt (d :: ds) q 0 = q d := rfl
    have e2 : (itemAt (d :: ds) q ∘ Nat.succ) = itemAt ds q := by funext i; unfold itemAt; simp
    have e3 : (mapAt v (d :: ds) ∘ Nat.succ) = mapAt v ds := by funext i; unfold mapAt; simp
    rw [e1, e2]
    cases q d with
    | true =>
      simp only [if_true, List.map_cons, List.map_map, e3, ih]
      rfl
    | false =>
      simp only [Bool.false_eq_true, if_false, List.map_map, e3, ih]
theorem one_mem {j : Nat} {vs : List Nat} (h : j ∈ vs) : ∀ k ∈ [j], k ∈ vs := fun k m => by
  rw [List.mem_singleton] at m; rw [m]; exact h
/-- all([.. for x in tuple]) -/
theorem pv_allT (h : PV c tl ρ g fun e g1 => ∃ ds, e = .d (.tuple ds) ∧ j ∈ vs ∧ ds.length ≤ 1000000 ∧ ∃ q : PyData → Bool, (∀ x, x ∈ ds → PV c te ((wipeR ρ vs).set j (some (.d x))) g1 fun e g2 => e = .d (.bool (q x)) ∧ g2 = g1) ∧ P (.d (.bool (ds.all q))) g1) :
    PV c (tCB (rAll c.K) (tCons (tLc (iTup c.K tl) (gName j) tYes te vs) tNil)) ρ g P := by
  refine pv_all (js := [j]) (pit_tup (h.imp ?_))
  rintro e g1 ⟨ds, e1, hj, hz, q, hq, hp⟩
  refine ⟨ds, e1, one_mem hj, lt_line hz, itemAt ds q, fun i hi => ?_, by rw [itemAt_all]; exact hp⟩
  have ei := List.getElem?_eq_getElem hi
  rw [dsR_at ei, itemAt_of ei]
  exact hq _ (List.getElem_mem hi)
/-- all([.. for sign in text]) -/
theorem pv_allS (h : PV c tl ρ g fun e g1 => ∃ z : Str, e = .d (.str z) ∧ j ∈ vs ∧ z.length ≤ 1000000 ∧ ∃ q : Nat → Bool, (∀ n, n ∈ z.cps.toList → PV c te ((wipeR ρ vs).set j (some (.d (.str ⟨#[n]⟩)))) g1 fun e g2 => e = .d (.bool (q n)) ∧ g2 = g1) ∧ P (.d (.bool (z.cps.toList.all q))) g1) :
    PV c (tCB (rAll c.K) (tCons (tLc (iStr tl) (gName j) tYes te vs) tNil)) ρ g P := by
  refine pv_all (js := [j]) (pit_str (h.imp ?_))
  rintro e g1 ⟨z, e1, hj, hz, q, hq, hp⟩
  refine ⟨z, e1, one_mem hj, lt_line hz, signAt z q, fun i hi => ?_, by rw [signAt_all]; exact hp⟩
  have ei : z.cps[i]? = some z.cps[i] := Array.getElem?_eq_getElem hi
  rw [stR_at ei]
  have e2 : signAt z q i = q z.cps[i] := by rw [signAt, ei]
  rw [e2]
  exact hq _ (by simp)
/-- all([.. for i in range(n)]) -/
theorem pv_allR {ta : TA} (h : PAs c ta ρ g fun es g1 => ∃ n : Nat, ∃ k : Int, es = [.d (.int k)] ∧ k.toNat = n ∧ j ∈ vs ∧ k ≤ 1000000 ∧ -(2 ^ 62) ≤ k ∧ ∃ q : Nat → Bool, (∀ i : Nat, i < n → PV c te ((wipeR ρ vs).set j (some (.d (.int (i : Nat))))) g1 fun e g2 => e = .d (.bool (q i)) ∧ g2 = g1) ∧ P (.d (.bool ((List.range n).all q))) g1) :
    PV c (tCB (rAll c.K) (tCons (tLc (iRng1 ta) (gName j) tYes te vs) tNil)) ρ g P := by
  refine pv_all (js := [j]) (pit_rng1 fun σ I H ok en Q k => h σ I H ok en Q fun vs1 I1 H1 g1 es s1 ok1 r1 ⟨n, m, e1, hm, hj, hz, hl, q, hq, hp⟩ => k vs1 I1 H1 g1 es s1 ok1 r1 ⟨m, e1, hl, by omega, one_mem hj, lt_line (by omega), q, fun i hi => ?_, by rw [hm]; exact hp⟩)
  dsimp only
  rw [show (0 + (i : Int)) = (i : Int) from Int.zero_add _]
  exact hq i (by omega)
/-- [.. for x in tuple], [.. for x in list] -/
theorem pv_lcT (h : PV c tl ρ g fun e g1 => ∃ ds, e = .d (.tuple ds) ∧ j ∈ vs ∧ ds.length ≤ 1000000 ∧ ∃ v : PyData → PyData, (∀ x, x ∈ ds → PV c te ((wipeR ρ vs).set j (some (.d x))) g1 fun e g2 => e = .d (v x) ∧ g2 = g1) ∧ P (.d (.list (ds.map v))) g1) :
    PV c (tLc (iTup c.K tl) (gName j) tYes te vs) ρ g P := by
  refine pv_lcM (js := [j]) (pit_tup (h.imp ?_))
  rintro e g1 ⟨ds, e1, hj, hz, v, hq, hp⟩
  refine ⟨ds, e1, one_mem hj, lt_line hz, mapAt v ds, fun i hi => ?_, by rw [mapAt_map]; exact hp⟩
  have ei := List.getElem?_eq_getElem hi
  rw [dsR_at ei, mapAt_of ei]
  exact hq _ (List.getElem_mem hi)
theorem pv_lcL (h : PV c tl ρ g fun e g1 => ∃ ds, e = .d (.list ds) ∧ j ∈ vs ∧ ds.length ≤ 1000000 ∧ ∃ v : PyData → PyData, (∀ x, x ∈ ds → PV c te ((wipeR ρ vs).set j (some (.d x))) g1 fun e g2 => e = .d (v x) ∧ g2 = g1) ∧ P (.d (.list (ds.map v))) g1) :
    PV c (tLc (iList c.K tl) (gName j) tYes te vs) ρ g P := by
  refine pv_lcM (js := [j]) (pit_lst (h.imp ?_))
  rintro e g1 ⟨ds, e1, hj, hz, v, hq, hp⟩
  refine ⟨ds, e1, one_mem hj, lt_line hz, mapAt v ds, fun i hi => ?_, by rw [mapAt_map]; exact hp⟩
  have ei := List.getElem?_eq_getElem hi
  rw [dsR_at ei, mapAt_of ei]
  exact hq _ (List.getElem_mem hi)
/-- the same with a test -/
theorem pv_lcTF {tt : TT} (h : PV c tl ρ g fun e g1 => ∃ ds, e = .d (.tuple ds) ∧ j ∈ vs ∧ ds.length ≤ 1000000 ∧ ∃ (q : PyData → Bool) (v : PyData → PyData), (∀ x, x ∈ ds → PB c tt ((wipeR ρ vs).set j (some (.d x))) g1 fun b g2 => b = q x ∧ g2 = g1 ∧ (q x = true → PV c te ((wipeR ρ vs).set j (some (.d x))) g1 fun e g2 => e = .d (v x) ∧ g2 = g1)) ∧ P (.d (.list ((ds.filter q).map v))) g1) :
    PV c (tLc (iTup c.K tl) (gName j) tt te vs) ρ g P := by
  refine pv_lcF (js := [j]) (pit_tup (h.imp ?_))
  rintro e g1 ⟨ds, e1, hj, hz, q, v, hq, hp⟩
  refine ⟨ds, e1, one_mem hj, lt_line hz, itemAt ds q, mapAt v ds, fun i hi => ?_, by rw [filterAt_map]; exact hp⟩
  have ei := List.getElem?_eq_getElem hi
  rw [dsR_at ei, mapAt_of ei, itemAt_of ei]
  exact hq _ (List.getElem_mem hi)
end
end Dl
set_option Elab.async false
set_option linter.all false
set_option autoImplicit false
set_option maxRecDepth 100000
set_option maxHeartbeats 4000000
namespace Dl
open PySem PySem.Spec PyProof.Rows L2
structure TabK (K : PySem.W.Frag) (w : World) (tab : Tab) (a : Addr) (tests : Str → Option (List (PyData → Bool))) : Prop where
  no : ∀ z, tests z = none → PySem.W.nsIn K a z = some none
  yes : ∀ z ps, tests z = some ps → ∃ t fs, PySem.W.nsIn K a z = some (some (.ref t)) ∧ KDct K w a z (.ref t) ∧ (∀ H, SqT K H t fs) ∧ Judges tab fs ps
theorem word_of {d : PyData} (h : isWord d = true) : ∃ w r, d = .tuple (.str w :: r) := by
  unfold isWord at h
  split at h
  · exact ⟨_, _, rfl⟩
  · cases h
theorem cut_tail {α : Type} {x : α} {xs : List α} : cutD (x :: xs) (some 1) none = xs := by
  unfold cutD
  have h1 : HT.sIx (x :: xs).length 0 (some 1) = 1 := by
    have := HT.sIx_nat (x :: xs).length 0 1
    simp at this
    exact this
  rw [h1, HT.sIx_none]
  simp
theorem cut_take {α : Type} {xs : List α} (n : Nat) : cutD xs none (some (n : Int)) = xs.take n := by
  unfold cutD
  rw [HT.sIx_none, HT.sIx_nat]
  simp
theorem fit_tail {w : Str} {r : List PyData} (h : fit (.tuple (.str w :: r)) = true) : fit (.tuple r) = true := by
  rw [fit_tup] at h ⊢
  exact ⟨by have := h.1; simp at this; omega, fun x m => h.2 x (List.mem_cons_of_mem _ m)⟩
theorem byWord_word {tests : Str → Option (List (PyData → Bool))} {d : PyData} (h : isWord d = false) : byWord tests d = false := by
  unfold byWord
  split
  · cases h
  · rfl
theorem byWord_none {tests : Str → Option (List (PyData → Bool))} {w : Str} {r : List PyData} (h : tests w = none) : byWord tests (.tuple (.str w :: r)) = false := by
  unfold byWord; simp only [h]
theorem byWord_some {tests : Str → Option (List (PyData → Bool))} {w : Str} {r : List PyData} {ps : List (PyData → Bool)} (h : tests w = some ps) : byWord tests (.tuple (.str w :: r)) = allP r ps := by
  unfold byWord; simp only [h]
theorem judges_get {tab : Tab} : ∀ {fs : List V} {ps : List (PyData → Bool)} {i : Nat} {f : V}, Judges tab fs ps → fs[i]? = some f → ∃ p, ps[i]? = some p ∧ ∃ a, f = V.ref a ∧ tab a = some p
  | _, _, i, f, .nil, h => by simp at h
  | _, _, 0, f, .cons r _, h => by simp at h; subst h; exact ⟨_, rfl, r⟩
  | _, _, i + 1, f, .cons _ t, h => by
    obtain ⟨p, a, b⟩ := judges_get (i := i) t (by simpa using h)
    exact ⟨p, by simpa using a, b⟩
theorem zipR_at {a b i : Nat} {fs ds : List EV} {r : Rho} {x y : EV} (h1 : fs[i]? = some x) (h2 : ds[i]? = some y) : zipR a b fs ds i r = (r.set a (some x)).set b (some y) := by unfold zipR; rw [h1, h2]
theorem allP_ne {ds : List PyData} {ps : List (PyData → Bool)} (h : ds.length ≠ ps.length) : allP ds ps = false := by
  cases e : allP ds ps with
  | false => rfl
  | true => exact absurd (allP_len e) h
end Dl
set_option Elab.async false
set_option linter.all false
set_option autoImplicit false
set_option maxRecDepth 100000
set_option maxHeartbeats 4000000
namespace Dl
open PySem PySem.Spec PyProof.Rows L2
inductive MO where
  | ml (es : List EV)
  | md (es : List (Key × EV))
  | mt (es : List (List Key × EV))
  | lt (o : Obj) (kvs : List (List Key × V)) (es : List (List Key × EV))
  | mi (C : Addr) (ns : List Str) (es : List (Str × EV))
  | lk (o : Obj) (kvs : List (Key × V)) (es : List (Key × EV))
abbrev Store := Addr → Option MO
def RelP (K : PySem.W.Frag) (I : Hp) (p : Key × V) (q : Key × EV) : Prop := p.1 = q.1 ∧ RelE K I p.2 q.2
def RelPT (K : PySem.W.Frag) (I : Hp) (p : List Key × V) (q : List Key × EV) : Prop := p.1 = q.1 ∧ RelE K I p.2 q.2
def RelF (K : PySem.W.Frag) (I : Hp) (p : Str × V) (q : Str × EV) : Prop := p.1 = q.1 ∧ RelE K I p.2 q.2
def RelO (K : PySem.W.Frag) (I H : Hp) (a : Addr) : MO → Prop
  | .ml es => ∃ vs, H a = some (.lst vs) ∧ Paired (RelE K I) vs es
  | .md es => ∃ kvs, H a = some (.dK kvs) ∧ Paired (RelP K I) kvs es
  | .mt es => ∃ kvs, H a = some (.dT kvs) ∧ Paired (RelPT K I) kvs es
  | .lt o kvs es => H a = some (.frz o (.dT kvs)) ∧ Paired (RelPT K I) kvs es
  | .mi C ns es => ∃ dx vs, H a = some (.ins C dx vs) ∧ Paired (RelF K I) vs es ∧ Cls K C ∧ ∀ f ∈ ns, NoAttr K C f
  | .lk o kvs es => H a = some (.frz o (.dK kvs)) ∧ Paired (RelP K I) kvs es
theorem paired_imp {α β : Type} {R S : α → β → Prop} (i : ∀ x y, R x y → S x y) : ∀ {xs : List α} {ys : List β}, Paired R xs ys → Paired S xs ys
  | _, _, .nil => .nil
  | _, _, .cons h t => .cons (i _ _ h) (paired_imp i t)
theorem relO_ml {K : PySem.W.Frag} {I H : Hp} {a : Addr} {vs : List V} {es : List EV} (h1 : H a = some (.lst vs)) (h2 : Paired (RelE K I) vs es) : RelO K I H a (.ml es) := ⟨vs, h1, h2⟩
theorem RelO.mono {K : PySem.W.Frag} {I I' H H' : Hp} {a : Addr} {o : MO} (x : Ex I I') (e : H' a = H a) (h : RelO K I H a o) : RelO K I' H' a o := by
  cases o with
  | ml es => obtain ⟨vs, h1, h2⟩ := h; exact ⟨vs, by rw [e]; exact h1, Paired.relMono x h2⟩
  | md es => obtain ⟨vs, h1, h2⟩ := h; exact ⟨vs, by rw [e]; exact h1, paired_imp (fun _ _ q => ⟨q.1, q.2.mono x⟩) h2⟩
  | mt es => obtain ⟨vs, h1, h2⟩ := h; exact ⟨vs, by rw [e]; exact h1, paired_imp (fun _ _ q => ⟨q.1, q.2.mono x⟩) h2⟩
  | lt o kvs es => obtain ⟨h1, h2⟩ := h; exact ⟨by rw [e]; exact h1, paired_imp (fun _ _ q => ⟨q.1, q.2.mono x⟩) h2⟩
  | lk o kvs es => obtain ⟨h1, h2⟩ := h; exact ⟨by rw [e]; exact h1, paired_imp (fun _ _ q => ⟨q.1, q.2.mono x⟩) h2⟩
  | mi C ns es => obtain ⟨dx, vs, h1, h2, h3⟩ := h; exact ⟨dx, vs, by rw [e]; exact h1, paired_imp (fun _ _ q => ⟨q.1, q.2.mono x⟩) h2, h3⟩
theorem RelO.some {K : PySem.W.Frag} {I H : Hp} {a : Addr} {o : MO} (h : RelO K I H a o) : H a ≠ none := by
  cases o with
  | ml es => obtain ⟨vs, h1, h2⟩ := h; rw [h1]; simp
  | md es => obtain ⟨vs, h1, h2⟩ := h; rw [h1]; simp
  | mt es => obtain ⟨vs, h1, h2⟩ := h; rw [h1]; simp
  | lt o kvs es => obtain ⟨h1, h2⟩ := h; rw [h1]; simp
  | lk o kvs es => obtain ⟨h1, h2⟩ := h; rw [h1]; simp
  | mi C ns es => obtain ⟨dx, vs, h1, h2, h3⟩ := h; rw [h1]; simp
/-- the context with a store -/
abbrev sC (K : PySem.W.Frag) : Ctx where
  K := K
  S := Store
  M g a := g a ≠ none
  J g I H := ∀ a o, g a = some o → RelO K I H a o
  jm := fun g I I' H H' j x k a o e => (j a o e).mono x (k a (by rw [e]; simp))
  mh := fun g I H a j m => by
    cases e : g a with
    | none => exact absurd e m
    | some o => exact (j a o e).some
def put (g : Store) (a : Addr) (o : MO) : Store := fun b => if b = a then some o else g b
theorem put_same {g : Store} {a : Addr} {o : MO} : put g a o a = some o := if_pos rfl
theorem put_ne {g : Store} {a b : Addr} {o : MO} (h : b ≠ a) : put g a o b = g b := if_neg h
section
variable {K : PySem.W.Frag} {I H : Hp} {g : Store} {a : Addr} {ho : HO} {o : MO}
theorem Ok.putM (k : Ok (sC K) I H g) (h : g a ≠ none) (r : RelO K I (upd H a ho) a o) : Ok (sC K) I (upd H a ho) (Dl.put g a o) := by
  refine ⟨fun b u e => ?_, fun b o' e => ?_, fun b m => ?_⟩
  · have ne : b ≠ a := fun z => by rw [z, k.out a h] at e; cases e
    rw [upd_ne ne]; exact k.ex b u e
  · by_cases z : b = a
    · rw [z, put_same] at e
      cases e
      rw [z]; exact r
    · rw [put_ne z] at e
      exact RelO.mono (Ex.refl I) (upd_ne z) (k.j b o' e)
  · by_cases z : b = a
    · rw [z]; exact k.out a h
    · have m' : Dl.put g a o b ≠ none := m
      rw [put_ne z] at m'
      exact k.out b m'
theorem Step.putM (h : g a ≠ none) : Step (sC K) I H g I (upd H a ho) (Dl.put g a o) := by
  refine ⟨Ex.refl I, fun b u e m => ?_, fun _ _ _ _ e _ => e, fun b m => ?_, fun b e => ?_⟩
  · have ne : b ≠ a := fun z => m (by show g b ≠ none; rw [z]; exact h)
    rw [upd_ne ne]; exact e
  · by_cases z : b = a
    · rw [z]; exact .inl h
    · have m' : Dl.put g a o b ≠ none := m
      rw [put_ne z] at m'
      exact .inl m'
  · by_cases z : b = a
    · rw [z, upd_same]; simp
    · rw [upd_ne z]; exact e
theorem Ok.newM (k : Ok (sC K) I H g) (h : H a = none) (r : RelO K I (upd H a ho) a o) : Ok (sC K) I (upd H a ho) (put g a o) := by
  have hg : g a = none := by
    cases e : g a with
    | none => rfl
    | some o => exact absurd h (k.j a o e).some
  refine ⟨fun b u e => ?_, fun b o' e => ?_, fun b m => ?_⟩
  · have ne : b ≠ a := fun z => by rw [z, k.free h] at e; cases e
    rw [upd_ne ne]; exact k.ex b u e
  · by_cases z : b = a
    · rw [z, put_same] at e
      cases e
      rw [z]; exact r
    · rw [put_ne z] at e
      exact RelO.mono (Ex.refl I) (upd_ne z) (k.j b o' e)
  · by_cases z : b = a
    · rw [z]; exact k.free h
    · have m' : Dl.put g a o b ≠ none := m
      rw [put_ne z] at m'
      exact k.out b m'
theorem Step.newM (h : H a = none) : Step (sC K) I H g I (upd H a ho) (put g a o) := by
  refine ⟨Ex.refl I, fun b u e m => ?_, fun _ _ _ _ e _ => e, fun b m => ?_, fun b e => ?_⟩
  · rw [upd_ne (ne_of_none e h)]; exact e
  · by_cases z : b = a
    · rw [z]; exact .inr h
    · have m' : Dl.put g a o b ≠ none := m
      rw [put_ne z] at m'
      exact .inl m'
  · have ne : b ≠ a := fun z => e (by rw [z]; exact h)
    rw [upd_ne ne]; exact e
end
theorem paired_at {K : PySem.W.Frag} {I : Hp} {es : List EV} {vs : List V} {i : Int} {e : EV} (h : Paired (RelE K I) vs es) (q : atI es i = some e) : ∃ v, atI vs i = some v ∧ RelE K I v e := by
  unfold atI at q ⊢
  rw [paired_len h]
  cases z : ixN es.length i with
  | none => rw [z] at q; cases q
  | some j =>
    rw [z] at q
    exact paired_get h q
theorem paired_set {α β : Type} {R : α → β → Prop} {x : α} {y : β} (r : R x y) : ∀ {j : Nat} {xs : List α} {ys : List β}, Paired R xs ys → Paired R (xs.set j x) (ys.set j y)
  | _, _, _, .nil => by simpa using Paired.nil
  | 0, _, _, .cons h t => .cons r t
  | j + 1, _, _, .cons h t => .cons h (paired_set r t)
theorem paired_app {α β : Type} {R : α → β → Prop} : ∀ {xs xs' : List α} {ys ys' : List β}, Paired R xs ys → Paired R xs' ys' → Paired R (xs ++ xs') (ys ++ ys')
  | _, _, _, _, .nil, k => k
  | _, _, _, _, .cons h t, k => .cons h (paired_app t k)
theorem paired_drop {α β : Type} {R : α → β → Prop} : ∀ (n : Nat) {xs : List α} {ys : List β}, Paired R xs ys → Paired R (xs.drop n) (ys.drop n)
  | 0, _, _, h => h
  | n + 1, _, _, .nil => .nil
  | n + 1, _, _, .cons h t => paired_drop n t
theorem paired_take {α β : Type} {R : α → β → Prop} : ∀ (n : Nat) {xs : List α} {ys : List β}, Paired R xs ys → Paired R (xs.take n) (ys.take n)
  | 0, _, _, _ => by simpa using Paired.nil
  | n + 1, _, _, .nil => .nil
  | n + 1, _, _, .cons h t => .cons h (paired_take n t)
theorem paired_dp {K : PySem.W.Frag} {I : Hp} : ∀ {ds : List PyData} {vs : List V}, Paired (RelE K I) vs (ds.map .d) → DpAll K I vs ds
  | [], _, h => by cases h; exact .nil
  | d :: ds, _, h => by
    cases h with
    | cons h1 h2 => exact .cons h1 (paired_dp h2)
theorem dp_paired {K : PySem.W.Frag} {I : Hp} : ∀ {ds : List PyData} {vs : List V}, DpAll K I vs ds → Paired (RelE K I) vs (ds.map .d)
  | [], _, h => by cases h; exact .nil
  | d :: ds, _, h => by
    cases h with
    | cons h1 h2 => exact .cons h1 (dp_paired h2)
def getA (es : List (Key × EV)) (k : Key) : Option EV := (es.find? fun p => decide (p.1 = k)).map (·.2)
theorem relP_get {K : PySem.W.Frag} {I : Hp} {k : Key} : ∀ {kvs : List (Key × V)} {es : List (Key × EV)} {e : EV}, Paired (RelP K I) kvs es → getA es k = some e → ∃ v, valV kvs k = some v ∧ RelE K I v e
  | _, _, _, .nil, q => by cases q
  | p :: _, x :: _, e, .cons h t, q => by
    by_cases z : p.1 = k
    · rw [getA, List.find?_cons, decide_eq_true (by rw [← h.1]; exact z)] at q
      cases q
      exact ⟨p.2, valV_pos z, h.2⟩
    · rw [getA, List.find?_cons, decide_eq_false (by rw [← h.1]; exact z)] at q
      obtain ⟨v, e1, e2⟩ := relP_get t q
      exact ⟨v, by rw [valV_neg z]; exact e1, e2⟩
section
variable {K : PySem.W.Frag} {w : World} {g : Store} {P : EV → Store → Prop} {ρ : Rho} {te ta tb td ty tv : TE} {Pn : Rho → Store → Prop} {a : Addr}
theorem o_ixM {es : List EV} {i : Int} {e : EV} (hg : g a = some (.ml es)) (hi : atI es i = some e) (p : P e g) : O2 (sC K) (zIx (sC K).K w) (.r (.ref a)) (.d (.int i)) g P := fun I H xv yv ok rx ry Q k => by
  cases ry
  have rx' : xv = .ref a := rx
  subst rx'
  obtain ⟨vs, h1, h2⟩ := ok.j a _ hg
  obtain ⟨v, e1, r⟩ := paired_at h2 hi
  exact .inl (.inl ⟨a, vs, i, v, rfl, rfl, .inl (.inl h1), e1, k.here (e := e) ok r p⟩)
theorem oc_lenM {es : List EV} (hg : g a = some (.ml es)) (p : P (.d (.int es.length)) g) : OC (sC K) (zLen (sC K).K) [.r (.ref a)] g P := fun I H vs ok r Q k => by
  obtain ⟨v, e, r1⟩ := one_of r
  have r1' : v = .ref a := r1
  subst e r1'
  obtain ⟨vs, h1, h2⟩ := ok.j a _ hg
  exact ⟨_, es.length, rfl, .inl ⟨vs, .inl (.inl h1), (paired_len h2).symm⟩, k.here (e := .d (.int _)) ok (Dp.int _) p⟩
/-- a list display as an object that changes -/
theorem pv_lstM {tl : TA} (h : PAs (sC K) tl ρ g fun es g1 => es.length ≤ sizeLine ∧ ∀ q, g1 q = none → P (.r (.ref q)) (put g1 q (.ml es))) : PV (sC K) (tLst tl) ρ g P := fun σ I H ok en Q k =>
  h σ I H ok en _ fun vs I1 H1 g1 es s1 ok1 r1 ⟨hz, p1⟩ => by
    refine ⟨by rw [paired_len r1]; exact hz, fun q hq => k _ I1 _ _ (.r (.ref q)) (s1.trans (Step.newM hq)) (ok1.newM hq (relO_ml upd_same r1)) rfl (p1 q ?_)⟩
    cases e : g1 q with
    | none => rfl
    | some o => exact absurd hq (ok1.j q o e).some
theorem ps_setix {to ti : TE} {Pr : EV → Store → Prop} (h : PV (sC K) te ρ g fun e g1 => PV (sC K) to ρ g1 fun x g2 => PV (sC K) ti ρ g2 fun y g3 => ∃ a es i j, x = .r (.ref a) ∧ y = .d (.int i) ∧ g3 a = some (.ml es) ∧ ixN es.length i = some j ∧ Pn ρ (put g3 a (.ml (es.set j e)))) :
    PSt (sC K) (tAsg te (gSub to ti rSetL)) ρ g Pn Pr := fun σ I H ok en D kn kr =>
  h σ I H ok en _ fun v I1 H1 g1 e s1 ok1 r1 p1 => p1 σ I1 H1 ok1 (en.mono s1.im) _ fun u I2 H2 g2 x s2 ok2 r2 p2 => p2 σ I2 H2 ok2 (en.mono (s1.trans s2).im) _ fun t I3 H3 g3 y s3 ok3 r3 ⟨a, es, i, j, e1, e2, hg, hj, p3⟩ => by
    subst e1 e2
    cases r3
    have r2' : u = .ref a := r2
    subst r2'
    obtain ⟨vs, h1, h2⟩ := ok3.j a _ hg
    have ha : g3 a ≠ none := by rw [hg]; simp
    have re : RelE K I3 v e := r1.mono (s2.trans s3).im
    exact ⟨a, vs, i, j, rfl, rfl, h1, by rw [paired_len h2]; exact hj, kn σ I3 _ _ ρ (((s1.trans s2).trans s3).trans (Step.putM (K := K) (o := _) ha)) (ok3.putM ha (relO_ml upd_same (paired_set re h2))) (en.mono ((s1.trans s2).trans s3).im) p3⟩
theorem pv_dget (h : PV (sC K) td ρ g fun x g1 => PV (sC K) ty ρ g1 fun y g2 => ∃ a es z e, x = .r (.ref a) ∧ y = .d (.str z) ∧ g2 a = some (.md es) ∧ getA es (.inr z) = some e ∧ P e g2) : PV (sC K) (tDGet td ty) ρ g P := fun σ I H ok en Q k =>
  h σ I H ok en _ fun v I1 H1 g1 x s1 ok1 r1 p1 => p1 σ I1 H1 ok1 (en.mono s1.im) _ fun u I2 H2 g2 y s2 ok2 r2 ⟨a, es, z, e, e1, e2, hg, he, p2⟩ => by
    subst e1 e2
    cases r2
    have r1' : v = .ref a := r1
    subst r1'
    obtain ⟨kvs, h1, h2⟩ := ok2.j a _ hg
    obtain ⟨v, hv, r⟩ := relP_get h2 he
    exact ⟨a, v, rfl, by rw [← hv]; exact DGet.k (k := .inr z) h1, k _ I2 H2 g2 e (s1.trans s2) ok2 r p2⟩
def PPr (c : Ctx) (t : L2.St → Hp → (List (V × V) → Hp → Prop) → Prop) (ρ : Rho) (g : c.S) (P : List (Key × EV) → c.S → Prop) : Prop := ∀ σ I H, Ok c I H g → EnvOk c.K I σ ρ → ∀ Q : List (V × V) → Hp → Prop,
  (∀ kvs I' H' g' es, Step c I H g I' H' g' → Ok c I' H' g' → Paired (RelP c.K I') kvs es → P es g' → Q (kvs.map fun kv => (kV kv.1, kv.2)) H') → t σ H Q
theorem pp_nil {c : Ctx} {g : c.S} {P : List (Key × EV) → c.S → Prop} (p : P [] g) : PPr c (tPairs []) ρ g P := fun σ I H ok en Q k => k [] I H g [] Step.refl ok .nil p
theorem pp_cons {c : Ctx} {g : c.S} {P : List (Key × EV) → c.S → Prop} {z : Str} {r : List (TE × TE)} (h : PV c tv ρ g fun e g1 => PPr c (tPairs r) ρ g1 fun es g2 => P ((.inr z, e) :: es) g2) : PPr c (tPairs ((tC (.str z), tv) :: r)) ρ g P := fun σ I H ok en Q k =>
  h σ I H ok en _ fun v I1 H1 g1 e s1 ok1 r1 p1 => p1 σ I1 H1 ok1 (en.mono s1.im) _ fun kvs I2 H2 g2 es s2 ok2 r2 p2 => k ((.inr z, v) :: kvs) I2 H2 g2 _ (s1.trans s2) ok2 (.cons ⟨rfl, r1.mono s2.im⟩ r2) p2
end
/-- a promise told in the context with a store -/
abbrev FS := Store → List EV → (EV → Store → Prop) → Prop
def FL (n : Nat) (F : FS) : FT := fun c g es P => es.length = n ∧ ∃ (K : PySem.W.Frag) (g0 : Store) (P0 : EV → Store → Prop), (⟨c, g, P⟩ : (c : Ctx) × c.S × (EV → c.S → Prop)) = ⟨sC K, g0, P0⟩ ∧ F g0 es P0
theorem use_FL {n : Nat} {F : FS} {K : PySem.W.Frag} {g : Store} {es : List EV} {P : EV → Store → Prop} (l : es.length = n) (h : F g es P) : FL n F (sC K) g es P := ⟨l, K, g, P, rfl, h⟩
end Dl
set_option Elab.async false
set_option linter.all false
set_option autoImplicit false
set_option maxRecDepth 100000
set_option maxHeartbeats 4000000
namespace Dl
open PySem PySem.Spec PyProof.Rows L2
theorem spFL {K : PySem.W.Frag} {n : Nat} {F : FS} {vs : List V} {H : Hp} {Q : VK} {E : XK} (h : SpF K (FL n F) vs H Q E) : ∃ (I : Hp) (g : Store) (es : List EV) (P : EV → Store → Prop), Ok (sC K) I H g ∧ Paired (RelE (sC K).K I) vs es ∧ F g es P ∧ End (sC K) I H g P Q := by
  obtain ⟨c, I, g, es, P, e, ok, r, ⟨-, K0, g0, P0, e0, hF⟩, k⟩ := h
  cases e0
  have e' : K0 = K := e
  subst e'
  exact ⟨I, _, es, _, ok, r, hF, k⟩
theorem ps_cut {c : Ctx} {ρ : Rho} {g : c.S} {t u : TS} {Pn : Rho → c.S → Prop} {Pr : EV → c.S → Prop} (Mid : Rho → c.S → Prop) (h1 : PSt c t ρ g Mid Pr) (h2 : ∀ ρ1 g1, Mid ρ1 g1 → PSt c u ρ1 g1 Pn Pr) : PSt c (tSeq t u) ρ g Pn Pr := Dl.ps_seq (h1.imp h2)
theorem cut_drop {α : Type} {xs : List α} (n : Nat) : cutD xs (some (n : Int)) none = xs.drop n := by
  unfold cutD
  rw [HT.sIx_none, HT.sIx_nat]
  by_cases h : n ≤ xs.length
  · rw [Nat.min_eq_left h, List.take_of_length_le (by simp)]
  · rw [Nat.min_eq_right (by omega)]
    simp
    omega
theorem o_neg {c : Ctx} {g : c.S} {P : EV → c.S → Prop} {f : Int → Int} {i : Int} (p : P (.d (.int (f i))) g) : O1 c (rU fun i => .int (f i)) (.d (.int i)) g P := fun I H xv ok rx Q k => by
  cases rx
  exact ⟨i, rfl, k.here (e := .d (.int (f i))) ok (Dp.int _) p⟩
theorem atI_some {α : Type} {xs : List α} {i : Int} (h0 : 0 ≤ i) (h1 : i < xs.length) : ∃ x, atI xs i = some x ∧ x ∈ xs := by
  obtain ⟨n, rfl⟩ := Int.eq_ofNat_of_zero_le h0
  have hn : n < xs.length := by omega
  exact ⟨xs[n], atI_nat (List.getElem?_eq_getElem hn), List.getElem_mem hn⟩
section
variable {c : Ctx} {ρ : Rho} {g : c.S} {P : EV → c.S → Prop} {te : TE} {vs js : List Nat} {wi : TI} {gt : TG}
/-- a comprehension whose items are known by a property alone -/
theorem pv_lcG (h : PIt c wi gt js ρ g fun n f g1 => (∀ j ∈ js, j ∈ vs) ∧ n < sizeLine ∧ ∃ (G : Nat → PyData → Prop) (J : c.S → Prop), J g1 ∧ (∀ i g2, i < n → J g2 → PV c te (f i (wipeR ρ vs)) g2 fun e g3 => ∃ d, e = .d d ∧ G i d ∧ J g3) ∧
    (∀ ds g2, ds.length = n → (∀ (i : Nat) (d : PyData), ds[i]? = some d → G i d) → J g2 → P (.d (.list ds)) g2)) : PV c (tLc wi gt tYes te vs) ρ g P := by
  refine pv_lc fun σ I H ok en R k => h σ I H ok en R fun J n f I1 H1 g1 s1 ok1 W ⟨hj, hn, G, Jv, h0, turn, hp⟩ => k J n f I1 H1 g1 s1 ok1 W ⟨hj, hn, fun i acc g2 => acc.length = i ∧ (∀ (i : Nat) (d : PyData), acc[i]? = some d → G i d) ∧ Jv g2, ⟨rfl, fun i d e => by simp at e, h0⟩, ?_, ?_⟩
  · rintro i acc g2 hi _ ⟨hl, hG, hJ⟩
    refine fun σ I H ok en Q kq => kq true I H g2 Step.refl ok ?_
    dsimp only
    rw [if_pos rfl]
    refine (turn i g2 hi hJ).imp fun e g3 ⟨d, e1, hd, hJ3⟩ => ⟨d, e1, by simp [hl], fun k x q => ?_, hJ3⟩
    by_cases hk : k < acc.length
    · rw [List.getElem?_append_left hk] at q
      exact hG k x q
    · rw [List.getElem?_append_right (by omega)] at q
      have hk2 : k = acc.length := by
        have := (List.getElem?_eq_some_iff.mp q).1
        simp at this; omega
      subst hk2
      simp at q
      subst q
      rw [hl]; exact hd
  · rintro acc g2 _ ⟨hl, hG, hJ⟩
    exact hp acc g2 hl hG hJ
def sgn (x : Nat) : PyData := .str ⟨#[x]⟩
theorem sgns_of {good : Nat → Prop} : ∀ {ds : List PyData}, (∀ d ∈ ds, ∃ x, d = sgn x ∧ good x) → ∃ ns : List Nat, ds = ns.map sgn ∧ ∀ x ∈ ns, good x
  | [], _ => ⟨[], rfl, fun x h => by cases h⟩
  | d :: ds, h => by
    obtain ⟨x, rfl, hx⟩ := h d (by simp)
    obtain ⟨ns, rfl, hn⟩ := sgns_of (ds := ds) fun y m => h y (by simp [m])
    refine ⟨x :: ns, rfl, fun y m => ?_⟩
    rcases List.mem_cons.mp m with rfl | m
    · exact hx
    · exact hn y m
theorem join_sgns (ns : List Nat) : Txt.join (Str.ofString "") (ns.map fun x => (⟨#[x]⟩ : Str)) = ⟨ns.toArray⟩ := by
  show Builtin.Str.glued (Str.ofString "") _ = _
  rw [StrLaws.glued_eq_join]
  have e : (Str.ofString "") = (⟨#[]⟩ : Str) := by decide
  rw [e]
  exact PyProof.Rows.join_nil_signs ⟨ns.toArray⟩
theorem sum_ones (ns : List Nat) : ((ns.map fun x => (⟨#[x]⟩ : Str)).map (·.length)).sum = ns.length := by
  induction ns with
  | nil => rfl
  | cons x ns ih =>
    rw [List.map_cons, List.map_cons, List.sum_cons, ih, List.length_cons]
    show 1 + _ = _
    omega
theorem pv_word (h : PIt c wi gt js ρ g fun n f g1 => (∀ j ∈ js, j ∈ vs) ∧ n ≤ 1000 ∧ ∃ (good : Nat → Prop) (J : c.S → Prop), J g1 ∧ (∀ i g2, i < n → J g2 → PV c te (f i (wipeR ρ vs)) g2 fun e g3 => ∃ x, e = .d (.str ⟨#[x]⟩) ∧ good x ∧ J g3) ∧
    (∀ (ns : List Nat) (g2 : c.S), ns.length = n → (∀ x ∈ ns, good x) → J g2 → P (.d (.str ⟨ns.toArray⟩)) g2)) : PV c (tM1 (zJoin c.K) (tC (.str (Str.ofString ""))) (tLc wi gt tYes te vs)) ρ g P := by
  refine pv_join (pv_lcG fun σ I H ok en R k => h σ I H ok en R fun J n f I1 H1 g1 s1 ok1 W ⟨hj, hn, good, Jv, h0, turn, hp⟩ => k J n f I1 H1 g1 s1 ok1 W ⟨hj, lt_line (by omega), fun _ d => ∃ x, d = sgn x ∧ good x, Jv, h0, fun i g2 hi hJ => (turn i g2 hi hJ).imp fun e g3 ⟨x, e1, hx, hJ3⟩ => ⟨_, e1, ⟨x, rfl, hx⟩, hJ3⟩, fun ds g2 hl hG hJ => ?_⟩)
  obtain ⟨ns, rfl, hn2⟩ := sgns_of (good := good) (ds := ds) fun d hd => by
    obtain ⟨i, hi, rfl⟩ := List.getElem_of_mem hd
    exact hG i _ (List.getElem?_eq_getElem hi)
  rw [List.length_map] at hl
  refine ⟨ns.map fun x => ⟨#[x]⟩, by rw [List.map_map]; rfl, ?_, ?_⟩
  · rw [sum_ones]
    have e : (Str.ofString "").length = 0 := by decide
    rw [e]; omega
  · rw [join_sgns]
    exact hp ns g2 hl hn2 hJ
end
theorem strOk_of {ns : List Nat} (h : ∀ x ∈ ns, x < 1114112) : PySem.PyData.strOk ⟨ns.toArray⟩ = true := by
  show ns.toArray.all (fun a => decide (a < 0x110000)) = true
  rw [← Array.all_toList, List.all_eq_true]
  exact fun x m => decide_eq_true (h x (by simpa using m))
theorem name_ok {ns : List Nat} (h0 : 1 ≤ ns.length) (hl : ns.length ≤ 8) (h : ∀ x ∈ ns, x ∈ lows.cps.toList) : isName (.str ⟨ns.toArray⟩) = true ∧ fit (.str ⟨ns.toArray⟩) = true := by
  have e : (⟨ns.toArray⟩ : Str).length = ns.length := by show ns.toArray.size = _; simp
  refine ⟨?_, ?_⟩
  · simp only [isName, e, Bool.and_eq_true, decide_eq_true_eq, List.all_eq_true]
    exact ⟨by omega, by omega, fun x m => h x (by simpa using m)⟩
  · rw [fit_str]
    exact ⟨by rw [e]; omega, trivial⟩
def Kept (g g' : Store) (p : Addr) : Prop := ∀ b, b ≠ p → g b ≠ none → g' b = g b
theorem Kept.refl {g : Store} {p : Addr} : Kept g g p := fun _ _ _ => rfl
theorem Kept.trans {g g1 g2 : Store} {p : Addr} (a : Kept g g1 p) (b : Kept g1 g2 p) : Kept g g2 p := fun x h n => (b x h (by rw [a x h n]; exact n)).trans (a x h n)
theorem Kept.put {g : Store} {p : Addr} {o : MO} : Kept g (put g p o) p := fun _ h _ => put_ne h
theorem Kept.new {g : Store} {p q : Addr} {o : MO} (h : g q = none) : Kept g (Dl.put g q o) p := fun b _ n => put_ne fun e => n (by rw [e]; exact h)
structure PotOk (ns : List Int) (i a m n : Int) : Prop where
  ns0 : ∀ x ∈ ns, 0 ≤ x
  i0 : 0 ≤ i
  a0 : 0 ≤ a
  len : ns.length ≤ 63
def PotIs (g : Store) (p : Addr) : Prop := ∃ ns i a m n, g p = some (.ml [.d (.list (List.map PyData.int ns)), .d (.int i), .d (.int a), .d (.int m), .d (.int n)]) ∧ PotOk ns i a m n
theorem PotIs.there {g : Store} {p : Addr} (h : PotIs g p) : g p ≠ none := by
  obtain ⟨ns, i, a, m, n, e, _⟩ := h
  rw [e]; simp
theorem PotIs.kept {g g' : Store} {p q : Addr} (h : PotIs g p) (k : Kept g g' q) (ne : p ≠ q) : PotIs g' p := by
  have t := h.there
  unfold PotIs at h ⊢
  rw [k p ne t]; exact h
theorem PotIs.new {g : Store} {p q : Addr} {o : MO} (h : PotIs g p) (hq : g q = none) : PotIs (put g q o) p := by
  have ne : p ≠ q := fun e => h.there (by rw [e]; exact hq)
  unfold PotIs at h ⊢
  rw [put_ne ne]; exact h
def accO (wr : Addr) (b n k : Int) : List (Key × EV) := [(.inr "boot", .d (.int b)), (.inr "first", .d (.int n)), (.inr "written", .r (.ref wr)), (.inr "gone", .d (.int k))]
structure AccAt (g : Store) (a wr : Addr) (m : Nat) (b n : Int) (p : List PyData) (ws : List PyData) (k : Nat) : Prop where
  ga : g a = some (.md (accO wr b n (k : Nat)))
  gw : g wr = some (.ml (ws.map .d))
  dr : ws.drop k = p
  le : k ≤ ws.length
  sz : ws.length ≤ m
  ne : a ≠ wr
theorem AccAt.kept {g g' : Store} {a wr q : Addr} {m : Nat} {b n : Int} {p ws : List PyData} {k : Nat} (h : AccAt g a wr m b n p ws k) (t : Kept g g' q) (n1 : a ≠ q) (n2 : wr ≠ q) : AccAt g' a wr m b n p ws k :=
  ⟨by rw [t a n1 (by rw [h.ga]; simp)]; exact h.ga, by rw [t wr n2 (by rw [h.gw]; simp)]; exact h.gw, h.dr, h.le, h.sz, h.ne⟩
abbrev sheetD (b n : Int) (p : List PyData) : PyData := .tuple [.int b, .int n, .tuple p]
theorem edit_put {t : PyData} (h : isText t = true) : isEdit (.tuple [.str "put", t]) = true := (byWord_some (tests := editTests) (w := "put") (ps := [isText]) rfl).trans (by simp [allP, h])
theorem edit_splice {a b t : PyData} (h1 : isCount a = true) (h2 : isCount b = true) (h : isText t = true) : isEdit (.tuple [.str "splice", a, b, t]) = true := (byWord_some (tests := editTests) (w := "splice") (ps := [isCount, isCount, isText]) rfl).trans (by simp [allP, h, h1, h2])
theorem edit_remove : isEdit (.tuple [.str "remove"]) = true := (byWord_some (tests := editTests) (w := "remove") (ps := []) rfl).trans (by simp [allP])
theorem edit_take {t : PyData} (h : isName t = true) : isEdit (.tuple [.str "take", t]) = true := (byWord_some (tests := editTests) (w := "take") (ps := [isName]) rfl).trans (by simp [allP, h])
theorem edit_adopt {a b : PyData} (h1 : isClient a = true) (h2 : isNumber b = true) : isEdit (.tuple [.str "adopt", a, b]) = true := (byWord_some (tests := editTests) (w := "adopt") (ps := [isClient, isNumber]) rfl).trans (by simp [allP, h1, h2])
theorem edit_drop {a b : PyData} (h1 : isClient a = true) (h2 : isNumber b = true) : isEdit (.tuple [.str "drop", a, b]) = true := (byWord_some (tests := editTests) (w := "drop") (ps := [isClient, isNumber]) rfl).trans (by simp [allP, h1, h2])
/-- what is pending: numbered without a gap up to n -/
structure RowIs (i : Int) (d : PyData) : Prop where
  ex : ∃ nm bs ed, d = .tuple [.int i, nm, bs, ed] ∧ isName nm = true ∧ isBase bs = true ∧ isEdit ed = true ∧ fit nm = true ∧ fit bs = true ∧ fit ed = true ∧ nm.depth ≤ 2 ∧ bs.depth ≤ 2 ∧ ed.depth ≤ 2
structure Pend (n : Int) (p : List PyData) : Prop where
  pos : 0 ≤ n - p.length
  row : ∀ (k : Nat) (d : PyData), p[k]? = some d → RowIs (n - p.length + 1 + k) d
theorem Pend.nil {n : Int} (h : 0 ≤ n) : Pend n [] := ⟨by simpa using h, fun k d e => by simp at e⟩
theorem depth_mem {x : PyData} : ∀ {ds : List PyData}, x ∈ ds → x.depth ≤ PyData.depthAll ds
  | [], h => by cases h
  | d :: ds, h => by
    simp only [PyData.depthAll]
    rcases List.mem_cons.mp h with rfl | h
    · exact Nat.le_max_left _ _
    · exact Nat.le_trans (depth_mem h) (Nat.le_max_right _ _)
theorem depthAll_le {k : Nat} : ∀ {ds : List PyData}, (∀ d ∈ ds, d.depth ≤ k) → PyData.depthAll ds ≤ k
  | [], _ => by simp [PyData.depthAll]
  | d :: ds, h => by
    simp only [PyData.depthAll]
    have h1 := h d (by simp)
    have h2 := depthAll_le (k := k) (ds := ds) fun x m => h x (by simp [m])
    omega
theorem Pend.fit {b n : Int} {p : List PyData} (h : Pend n p) (hb : 0 ≤ b) (hb2 : b ≤ 2 ^ 60) (hn2 : n ≤ 2 ^ 60) (hp : p.length ≤ 1000000) : Dl.fit (sheetD b n p) = true := by
  have hn : 0 ≤ n := by have := h.pos; omega
  have hrow : ∀ d ∈ p, Dl.fit d = true := by
    intro d hd
    obtain ⟨k, hk, rfl⟩ := List.getElem_of_mem hd
    obtain ⟨nm, bs, ed, e, _, _, _, h1, h2, h3, _⟩ := (h.row k _ (List.getElem?_eq_getElem hk)).ex
    rw [e, fit_tup]
    refine ⟨by simp, ?_⟩
    have := h.pos
    have hi : Dl.fit (.int (n - p.length + 1 + k)) = true := fit_int.mpr ⟨by omega, by omega⟩
    intro x hx
    simp only [List.mem_cons, List.not_mem_nil, or_false] at hx
    rcases hx with rfl | rfl | rfl | rfl <;> assumption
  rw [fit_tup]
  refine ⟨by simp, fun x hx => ?_⟩
  simp only [List.mem_cons, List.not_mem_nil, or_false] at hx
  rcases hx with rfl | rfl | rfl
  · exact fit_int.mpr ⟨by omega, by omega⟩
  · exact fit_int.mpr ⟨by omega, by omega⟩
  · exact fit_tup.mpr ⟨hp, hrow⟩
theorem Pend.depth {b n : Int} {p : List PyData} (h : Pend n p) : (sheetD b n p).depth ≤ 5 := by
  have hrow : ∀ d ∈ p, d.depth ≤ 3 := by
    intro d hd
    obtain ⟨k, hk, rfl⟩ := List.getElem_of_mem hd
    obtain ⟨nm, bs, ed, e, _, _, _, _, _, _, h1, h2, h3⟩ := (h.row k _ (List.getElem?_eq_getElem hk)).ex
    rw [e]
    simp only [PyData.depth, PyData.depthAll]
    omega
  have := depthAll_le hrow
  simp only [PyData.depth, PyData.depthAll]
  omega
abbrev F_law : FT := FL 1 fun g es P => ∃ ns : List Int, es = [.d (.list (ns.map .int))] ∧ ns.length ≤ 63 ∧ ∀ g', P (.d (.bool true)) g'
end Dl
set_option Elab.async false
set_option linter.all false
set_option autoImplicit false
set_option maxRecDepth 100000
set_option maxHeartbeats 4000000
namespace Dl
open PySem PySem.Spec PyProof.Rows L2
structure IsDef (K : PySem.W.Frag) (x : Str) (st : Stmt) (f : Addr) : Prop where
  a : PySem.W.nsIn K mainGlobals x = some (some (.ref f))
  k : PySem.W.keepIn K (.ref f) = true
  ex : ∃ (oc : Value) (od an : Option Addr) (osl : Array (Option Value)) (kV doc pm cdv ct : Value), K.lookup f = some ⟨oc, od, .func (PySem.W.fnOf x x (defArgs st) (defBody st) (defScope st) .none kV doc pm an cdv ct), osl⟩ ∧ PySem.W.codeIn K cdv x = true
theorem IsDef.def {K : PySem.W.Frag} {x : Str} {st : Stmt} {f : Addr} (I : IsDef K x st f) : ∃ fd, Fun K x x st f fd := by
  obtain ⟨a, k, oc, od, an, osl, kV, doc, pm, cdv, ct, l, c⟩ := I
  exact ⟨_, fun_mk l c k⟩
theorem IsDef.ne {K : PySem.W.Frag} {x y : Str} {st su : Stmt} {f g : Addr} (I : IsDef K x st f) (J : IsDef K y su g) (h : x ≠ y) : f ≠ g := by
  obtain ⟨a, k, oc, od, an, osl, kV, doc, pm, cdv, ct, l, c⟩ := I
  obtain ⟨a', k', oc', od', an', osl', kV', doc', pm', cdv', ct', l', c'⟩ := J
  intro e
  subst e
  rw [l] at l'
  injection l' with l1
  injection l1 with _ _ l2 _
  injection l2 with l3
  exact h (congrArg FuncData.name l3)
def IsTup (K : PySem.W.Frag) (a : Addr) (its : List Value) : Prop := ∃ od n sl, K.lookup a = some ⟨.type "tuple", od, .seq its.toArray n, sl⟩
theorem IsTup.sq {K : PySem.W.Frag} {a : Addr} {its : List Value} (h : IsTup K a its) {xs : List V} (hz : its.length ≤ 1000) (v : Vals xs its) (H : Hp) : SqT K H a xs := by
  obtain ⟨od, n, sl, l⟩ := h
  exact .inr ⟨_, its.toArray, n, l, rfl, rfl, by simpa using le_line (by omega), by simpa using v⟩
def keysAre : List DictEntry → List Str → Prop
  | [], [] => True
  | e :: r, k :: ks => (∃ t, e.key = .str k t) ∧ keysAre r ks
  | _, _ => False
theorem keysAre_mem : ∀ {es : List DictEntry} {ks : List Str}, keysAre es ks → ∀ e ∈ es, ∃ x t, e.key = .str x t ∧ x ∈ ks
  | [], [], _, e, h => by cases h
  | e :: r, k :: ks, h, e', m => by
    rcases List.mem_cons.mp m with rfl | m
    · obtain ⟨t, q⟩ := h.1
      exact ⟨k, t, q, List.mem_cons_self⟩
    · obtain ⟨x, t, q, hx⟩ := keysAre_mem h.2 e' m
      exact ⟨x, t, q, List.mem_cons_of_mem _ hx⟩
structure IsTab (K : PySem.W.Frag) (w : World) (a : Addr) (ks : List Str) (es : Array DictEntry) (n : Nat) : Prop where
  d : KDict K w a es n
  keys : keysAre es.toList ks
theorem IsTab.no {K : PySem.W.Frag} {w : World} {a : Addr} {ks : List Str} {es : Array DictEntry} {n : Nat} (h : IsTab K w a ks es n) {z : Str} (hz : z ∉ ks) : PySem.W.nsIn K a z = some none := by
  unfold PySem.W.nsIn
  rw [h.d.at_]
  have hm := keysAre_mem h.keys
  have e1 : es.toList.find? (fun e => e.key.isStr z) = none := by
    rw [List.find?_eq_none]
    intro e he q
    obtain ⟨x, t, hx, hk⟩ := hm e he
    rw [hx] at q
    have : x = z := by simpa [Value.isStr] using q
    exact hz (this ▸ hk)
  have e2 : es.toList.any (fun e => e.refKey) = false := by
    rw [List.any_eq_false]
    intro e he q
    obtain ⟨x, t, hx, hk⟩ := hm e he
    unfold DictEntry.refKey at q
    rw [hx] at q
    cases q
  show (match es.toList.find? (fun e => e.key.isStr z) with | some e => some (some e.val) | none => if es.toList.any (fun e => e.refKey) then none else some none) = some none
  rw [e1, e2]
  rfl
theorem IsTab.yes {K : PySem.W.Frag} {w : World} {a : Addr} {ks : List Str} {es : Array DictEntry} {n : Nat} (h : IsTab K w a ks es n) {z : Str} {t : Addr} (hz : PySem.W.nsIn K a z = some (some (.ref t))) : KDct K w a z (.ref t) := ⟨es, n, _, h.d.at_, h.d.lit, hz, rfl⟩
def tabOf (l : List (Addr × (PyData → Bool))) : Tab := fun a => (l.find? fun q => decide (q.1 = a)).map (·.2)
theorem tabOf_pos {f a : Addr} {p : PyData → Bool} {l : List (Addr × (PyData → Bool))} (e : f = a) : tabOf ((f, p) :: l) a = some p := by simp [tabOf, List.find?_cons, e]
theorem tabOf_neg {f a : Addr} {p : PyData → Bool} {l : List (Addr × (PyData → Bool))} (e : f ≠ a) : tabOf ((f, p) :: l) a = tabOf l a := by simp [tabOf, List.find?_cons, e]
theorem tabOf_mem {a : Addr} {p : PyData → Bool} : ∀ {l : List (Addr × (PyData → Bool))}, tabOf l a = some p → (a, p) ∈ l
  | [], h => by simp [tabOf] at h
  | (f, q) :: l, h => by
    by_cases e : f = a
    · rw [tabOf_pos e] at h
      cases h
      rw [e]; exact List.mem_cons_self
    · rw [tabOf_neg e] at h
      exact List.mem_cons_of_mem _ (tabOf_mem h)
section
variable {P : Program} {w : World} {K : PySem.W.Frag} {mg : Str → Option Value} {base : Heap}
theorem held_of {j k : Nat} {x : Str} {f : Addr} {fd : FuncData} {ps : List Str} {pre p : PyData → Bool} (D : L2.Def P w K mg base j x f fd ps (SpF K (FJ pre p))) (hjk : j ≤ k) (hp : ∀ d, fit d = true → pre d = true) : L2.Held P w K mg base k f (SpF K (FJ fit p)) :=
  ⟨fd, ps, (D.ok.mono hjk).imp fun vs H Q E ⟨c, I, g, es, P, e1, e2, e3, ⟨e4, d, e5, e6, e7⟩, e8⟩ => ⟨c, I, g, es, P, e1, e2, e3, ⟨e4, d, e5, hp d e6, e7⟩, e8⟩, D.kp, D.bd⟩
theorem hs_of {k : Nat} {l : List (Addr × (PyData → Bool))} (h : ∀ q ∈ l, L2.Held P w K mg base k q.1 (SpF K (FJ fit q.2))) : ∀ f sp, judgeS K (tabOf l) f = some sp → L2.Held P w K mg base k f sp := fun f sp e => by
  unfold judgeS at e
  cases q : tabOf l f with
  | none => rw [q] at e; cases e
  | some p =>
    rw [q] at e
    cases e
    exact h (f, p) (tabOf_mem q)
theorem def_of {k : Nat} {x : Str} {st : Stmt} {f : Addr} {fd : FuncData} {ps : List Str} {sp : Sp} {h : Heap} (I : IsDef K x st f) (X : K.In h) (G : h.Ns mainGlobals mg) (F : Fun K x x st f fd) (o : FnOk P w K mg base CX0 k f fd ps sp) (b : Binds K fd ps []) : L2.Def P w K mg base k x f fd ps sp :=
  ⟨o, PySem.W.mg_of X G I.a, I.k, b⟩
end
/-- the law's own promise -/
def spLaw (K : PySem.W.Frag) : Sp := fun vs H Q _ => ∃ (a : Addr) (ns : List Int), vs = [.ref a] ∧ SqL K H a (ns.map V.int) ∧ ns.length ≤ 63 ∧ ∀ H', Q (.bl true) H'
theorem spLaw_of {K : PySem.W.Frag} {vs : List V} {H : Hp} {Q : VK} {E : XK} (h : spLaw K vs H Q E) : SpF K F_law vs H Q E := by
  obtain ⟨a, ns, rfl, hS, hl, k⟩ := h
  refine ⟨sC K, H, fun _ => none, [.d (.list (ns.map .int))], fun e g => e = .d (.bool true), rfl, ⟨fun _ _ h => h, fun _ _ e => (by cases e), fun _ m => absurd rfl m⟩, .cons (Dp.lst hS (dpAll_ofInts ns)) .nil, use_FL rfl ⟨ns, rfl, hl, fun g' => rfl⟩, ?_⟩
  rintro v I' H' g' e s ok r rfl
  cases r
  exact k H'
end Dl
set_option Elab.async false
set_option linter.all false
set_option autoImplicit false
set_option maxRecDepth 100000
set_option maxHeartbeats 4000000
namespace Dl
open PySem PySem.Spec PyProof.Rows L2
end Dl
set_option Elab.async false
set_option linter.all false
set_option autoImplicit false
set_option maxRecDepth 100000
set_option maxHeartbeats 4000000
namespace Dl
open PySem PySem.Spec PyProof.Rows L2
theorem op_zinT {X : Cx} {K : PySem.W.Frag} (e : X.K = K := by rfl) : OpR X (compareOp .In) (rIn K false) := by subst e; exact op_in_seq
theorem inV_strs (x : Str) : ∀ zs : List Str, inV (.str x) (zs.map V.str) = decide (x ∈ zs)
  | [] => rfl
  | z :: zs => by
    have ih := inV_strs x zs
    unfold inV at ih ⊢
    rw [List.map_cons, List.any_cons, ih]
    by_cases e : z = x
    · subst e; simp [eqV]
    · have e' : ¬ x = z := fun q => e q.symm
      simp [eqV, e, e']
theorem o_inT {c : Ctx} {g : c.S} {P : EV → c.S → Prop} {x : Str} {ds : List PyData} (zs : List Str) (hd : ds = zs.map .str) (p : P (.d (.bool (decide (x ∈ zs)))) g) : O2 c (rIn c.K false) (.d (.str x)) (.d (.tuple ds)) g P := fun I H xv yv ok rx ry Q k => by
  subst hd
  cases rx
  cases ry with
  | @tup a xs _ hx ax =>
    have e := dpAll_strs ax
    subst e
    refine ⟨a, _, rfl, .inr (ok.ex.seqT hx), rfl, by simp [flatV], ?_⟩
    rw [if_neg (by decide), inV_strs]
    exact k.here (e := .d (.bool _)) ok (Dp.bl _) p
/-- a constant of the module that is a tuple of defs -/
theorem pv_constR {c : Ctx} {ρ : Rho} {g : c.S} {P : EV → c.S → Prop} {a : Addr} {fs : List V} (h : ∀ H, SqT c.K H a fs) (p : P (.rl fs) g) : PV c (tC (.ref a)) ρ g P := fun σ I H ok en Q k => k.here (e := .rl fs) ok ⟨a, rfl, .inr (h I)⟩ p
theorem name_of {d : PyData} (h : isName d = true) : ∃ z, d = .str z := by
  cases d with
  | str z => exact ⟨z, rfl⟩
  | _ => cases h
theorem client_of {d : PyData} (h : isClient d = true) : ∃ i, d = .int i ∧ 1 ≤ i ∧ i ≤ 9 := by
  cases d with
  | int i =>
    simp only [isClient, isBtw, Bool.and_eq_true, decide_eq_true_eq] at h
    exact ⟨i, rfl, h⟩
  | _ => cases h
end Dl
set_option Elab.async false
set_option linter.all false
set_option autoImplicit false
set_option maxRecDepth 100000
set_option maxHeartbeats 4000000
namespace Dl
open PySem PySem.Spec PyProof.Rows L2
end Dl
set_option Elab.async false
set_option linter.all false
set_option autoImplicit false
set_option maxRecDepth 100000
set_option maxHeartbeats 4000000
namespace Dl
open PySem PySem.Spec PyProof.Rows L2
section
variable {K : PySem.W.Frag} {w : World} {g : Store} {P : EV → Store → Prop} {ρ : Rho} {td ty tx tv : TE}
theorem pp_consI {c : Ctx} {g : c.S} {P : List (Key × EV) → c.S → Prop} {i : Int} {r : List (TE × TE)} (h : PV c tv ρ g fun e g1 => PPr c (tPairs r) ρ g1 fun es g2 => P ((.inl i, e) :: es) g2) : PPr c (tPairs ((tC (.int i), tv) :: r)) ρ g P := fun σ I H ok en Q k =>
  h σ I H ok en _ fun v I1 H1 g1 e s1 ok1 r1 p1 => p1 σ I1 H1 ok1 (en.mono s1.im) _ fun kvs I2 H2 g2 es s2 ok2 r2 p2 => k ((.inl i, v) :: kvs) I2 H2 g2 _ (s1.trans s2) ok2 (.cons ⟨rfl, r1.mono s2.im⟩ r2) p2
end
/-- all that stood still stands -/
def Sub (g g' : Store) : Prop := ∀ b, g b ≠ none → g' b = g b
theorem Sub.trans {g g1 g2 : Store} (a : Sub g g1) (b : Sub g1 g2) : Sub g g2 := fun x n => (b x (by rw [a x n]; exact n)).trans (a x n)
theorem Sub.new {g : Store} {q : Addr} {o : MO} (h : g q = none) : Sub g (put g q o) := fun b n => put_ne fun e => n (by rw [e]; exact h)
theorem Sub.kept {g g' : Store} {p : Addr} (h : Sub g g') : Kept g g' p := fun b _ n => h b n
end Dl
set_option Elab.async false
set_option linter.all false
set_option autoImplicit false
set_option maxRecDepth 100000
set_option maxHeartbeats 4000000
namespace L2
open PySem PySem.Spec PyProof.Rows
section
variable {X : Cx} {C : Addr} {bmB : List Value} {B newId initId : String}
/-- X() -/
theorem pmk_own0 {x : Str} {p pos : Pos} (F : ExcBaseFacts B newId initId bmB) (q : PySem.W.excIn X.K C bmB newId = true) (gC : X.mg x = some (.ref C)) (kC : PySem.W.keepIn X.K (.ref C) = true) (r : Raises X (.ref C)) (hg : Gl X x)
    (hdb : (x == ("__debug__" : Str)) = false := by decide) : PMk X (.Call (.Name x p) [] [] pos) (fun _ H Q => Q (.ref C) none H) := by
  intro pins s σ H Q I h
  refine wpAny_Call_Name_kw (ld_glob I hg gC ?_ hdb)
  refine PySem.W.callWith_K0 I.kIn kC ?_
  obtain ⟨bm, N, nm, qn, bs, hdct, sn, sub, ab, col, dd, k0, k1, k2, k3, k5, mN, hC, hN, hni, T⟩ := exc_obj I.kIn q
  refine wpAny_call_exc_subT F T hC hN hni (fun h' e hm => ?_) (Nat.zero_le _)
  exact mk_of I hm r h (I.hok.gone hm.new)
def tRaise0 (C : Addr) (W : WX) : TS := fun _ σ H => W (.ref C) none σ H
/-- what the written part says of an own error class -/
structure ExcD (K : PySem.W.Frag) (mg : Str → Option Value) (x : Str) (C : Addr) : Prop where
  at_ : mg x = some (.ref C)
  ex : PySem.W.excIn K C [.type "ValueError", .type "Exception", .type "BaseException", .type "object"] "ValueError.__new__" = true
  kp : PySem.W.keepIn K (.ref C) = true
  sb : PySem.W.subIn K (.ref C) (.type "BaseException") = some true
  ty : PySem.W.typeIn K (.ref C) = some (.type "type")
  is_ : ExcC K C
theorem ps_raise0 {x : Str} {W : WX} {p pos pos2 : Pos} (hc : X.calm = true) (tk : Takes X W) (T : ExcD X.K X.mg x C) (hg : Gl X x) (hdb : (x == ("__debug__" : Str)) = false := by decide) :
    PS X (.Raise (some (.Call (.Name x p) [] [] pos)) none pos2) (tRaise0 C W) := ps_raise hc tk (pmk_own0 PySem.F.excBase_ValueError T.ex T.at_ T.kp (raises_own T.sb T.ty) hg hdb)
/-- a def that is called by its name, and may raise -/
structure DefX (P : Program) (w : World) (K : PySem.W.Frag) (mg : Str → Option Value) (base : Heap) (k : Nat) (x : Str) (f : Addr) (fd : FuncData) (ps : List Str) (sp : Sp) : Prop where
  ok : FnOk P w K mg base (L2.CX P w) k f fd ps sp
  at_ : mg x = some (.ref f)
  kp : PySem.W.keepIn K (.ref f) = true
  bd : Binds K fd ps []
end
end L2
namespace Dl
open PySem PySem.Spec PyProof.Rows L2
abbrev FTX := (c : Ctx) → c.S → List EV → (EV → c.S → Prop) → (Value → c.S → Prop) → Prop
abbrev FNX (n : Nat) (F : FTX) : FTX := fun c g es P R => es.length = n ∧ F c g es P R
def EndX (c : Ctx) (I H : Hp) (g : c.S) (R : Value → c.S → Prop) (E : XK) : Prop := ∀ cls I' H' g', Step c I H g I' H' g' → Ok c I' H' g' → R cls g' → E cls none H'
def SpX (K : PySem.W.Frag) (F : FTX) : Sp := fun vs H Q E => ∃ (c : Ctx) (I : Hp) (g : c.S) (es : List EV) (P : EV → c.S → Prop) (R : Value → c.S → Prop), c.K = K ∧ Ok c I H g ∧ Paired (RelE K I) vs es ∧ F c g es P R ∧ End c I H g P Q ∧ EndX c I H g R E
theorem lenX {K : PySem.W.Frag} {F : FTX} {vs : List V} {H : Hp} {Q : VK} {E : XK} {n : Nat} (h : SpX K F vs H Q E) (l : ∀ c g es P R, F c g es P R → es.length = n) : vs.length = n := by
  obtain ⟨c, I, g, es, P, R, _, _, r, hF, _⟩ := h
  rw [paired_len r]; exact l c g es P R hF
section
variable (c : Ctx) (W : WX)
def PVX (te : TE) (ρ : Rho) (g : c.S) (P : EV → c.S → Prop) (R : Value → c.S → Prop) : Prop := ∀ σ I H, Ok c I H g → EnvOk c.K I σ ρ → ∀ Q : VK, End c I H g P Q → EndX c I H g R (WE W σ) → te σ H Q
def PAsX (t : TA) (ρ : Rho) (g : c.S) (P : List EV → c.S → Prop) (R : Value → c.S → Prop) : Prop := ∀ σ I H, Ok c I H g → EnvOk c.K I σ ρ → ∀ Q : List V → Hp → Prop, (∀ vs I' H' g' es, Step c I H g I' H' g' → Ok c I' H' g' → Paired (RelE c.K I') vs es → P es g' → Q vs H') → EndX c I H g R (WE W σ) → t σ H Q
def PStX (t : TS) (ρ : Rho) (g : c.S) (Pn : Rho → c.S → Prop) (Pr : EV → c.S → Prop) (R : Value → Rho → c.S → Prop) : Prop := ∀ σ I H, Ok c I H g → EnvOk c.K I σ ρ → ∀ D : Ends,
  (∀ σ' I' H' g' ρ', Step c I H g I' H' g' → Ok c I' H' g' → EnvOk c.K I' σ' ρ' → Pn ρ' g' → D.nx σ' H') → End c I H g Pr D.rt → (∀ cls σ' I' H' g' ρ', Step c I H g I' H' g' → Ok c I' H' g' → EnvOk c.K I' σ' ρ' → R cls ρ' g' → W cls none σ' H') → t D σ H
end
section
variable {c : Ctx} {W : WX} {ρ : Rho} {g : c.S} {P : EV → c.S → Prop} {R : Value → c.S → Prop} {Pn : Rho → c.S → Prop} {Pr : EV → c.S → Prop} {Rx : Value → Rho → c.S → Prop} {te ta : TE} {tl : TA} {t u : TS} {tc : TT}
theorem EndX.step {I H I' H' : Hp} {g g' : c.S} {E : XK} (k : EndX c I H g R E) (s : Step c I H g I' H' g') : EndX c I' H' g' R E := fun cls I2 H2 g2 s2 ok2 r => k cls I2 H2 g2 (s.trans s2) ok2 r
theorem pvx_lift (h : PV c te ρ g P) : PVX c W te ρ g P R := fun σ I H ok en Q k _ => h σ I H ok en Q k
theorem pvx_call {F : FTX} (h : PAs c tl ρ g fun es g1 => F c g1 es P R) : PVX c W (tCallS (SpX c.K F) (WE W) tl) ρ g P R := fun σ I H ok en Q k x =>
  h σ I H ok en _ fun vs I1 H1 g1 es s1 ok1 r1 p1 => ⟨c, I1, g1, es, P, R, rfl, ok1, r1, p1, fun v I2 H2 g2 e s2 ok2 r2 p2 => k v I2 H2 g2 e (s1.trans s2) ok2 r2 p2, x.step s1⟩
theorem pasx_nil {P : List EV → c.S → Prop} (p : P [] g) : PAsX c W tNil ρ g P R := fun σ I H ok en Q k _ => k [] I H g [] Step.refl ok .nil p
theorem pasx_cons {P : List EV → c.S → Prop} {tr : TA} (h : PVX c W ta ρ g (fun x g1 => PAsX c W tr ρ g1 (fun es g2 => P (x :: es) g2) R) R) : PAsX c W (tCons ta tr) ρ g P R := fun σ I H ok en Q k x =>
  h σ I H ok en _ (fun v I1 H1 g1 e s1 ok1 r1 p1 => p1 σ I1 H1 ok1 (en.mono s1.im) _ (fun us I2 H2 g2 es s2 ok2 r2 p2 => k (v :: us) I2 H2 g2 (e :: es) (s1.trans s2) ok2 (.cons (r1.mono s2.im) r2) p2) (x.step s1)) x
theorem pvx_tup (h : PAsX c W tl ρ g (fun es g1 => ∃ ds, allD es = some ds ∧ ds.length ≤ sizeLine ∧ P (.d (.tuple ds)) g1) R) : PVX c W (tTup tl) ρ g P R := fun σ I H ok en Q k x =>
  h σ I H ok en _ (fun vs I1 H1 g1 es s1 ok1 r1 ⟨ds, e1, hz, p1⟩ => by
    have a := allD_rel r1 e1
    refine ⟨by rw [dpAll_len a]; exact hz, fun p hp => k _ (upd I1 p (.tup vs)) (upd H1 p (.tup vs)) g1 (.d (.tuple ds)) (s1.trans (Step.new ok1 hp)) (ok1.new hp) (.tup (.inl (.inl upd_same)) (dpAll_mono (Ex.new (ok1.free hp)) ds vs a)) p1⟩) x
theorem psx_lift (h : PSt c t ρ g Pn Pr) : PStX c W t ρ g Pn Pr Rx := fun σ I H ok en D kn kr _ => h σ I H ok en D kn kr
theorem psx_seq (h : PStX c W t ρ g (fun ρ1 g1 => PStX c W u ρ1 g1 Pn Pr Rx) Pr Rx) : PStX c W (tSeq t u) ρ g Pn Pr Rx := fun σ I H ok en D kn kr kx =>
  h σ I H ok en { D with nx := u D } (fun σ1 I1 H1 g1 ρ1 s1 ok1 en1 p1 => p1 σ1 I1 H1 ok1 en1 D (fun σ2 I2 H2 g2 ρ2 s2 ok2 en2 p2 => kn σ2 I2 H2 g2 ρ2 (s1.trans s2) ok2 en2 p2) (fun v I2 H2 g2 e s2 ok2 r2 p2 => kr v I2 H2 g2 e (s1.trans s2) ok2 r2 p2) (fun cls σ2 I2 H2 g2 ρ2 s2 ok2 en2 r2 => kx cls σ2 I2 H2 g2 ρ2 (s1.trans s2) ok2 en2 r2)) kr kx
theorem psx_if (h : PB c tc ρ g fun b g1 => if b = true then PStX c W t ρ g1 Pn Pr Rx else PStX c W u ρ g1 Pn Pr Rx) : PStX c W (tIfS tc t u) ρ g Pn Pr Rx := fun σ I H ok en D kn kr kx =>
  h σ I H ok en _ fun b I1 H1 g1 s1 ok1 p1 => by
    cases b with
    | true => exact p1 σ I1 H1 ok1 (en.mono s1.im) D (fun σ2 I2 H2 g2 ρ2 s2 ok2 en2 p2 => kn σ2 I2 H2 g2 ρ2 (s1.trans s2) ok2 en2 p2) (fun v I2 H2 g2 e s2 ok2 r2 p2 => kr v I2 H2 g2 e (s1.trans s2) ok2 r2 p2) (fun cls σ2 I2 H2 g2 ρ2 s2 ok2 en2 r2 => kx cls σ2 I2 H2 g2 ρ2 (s1.trans s2) ok2 en2 r2)
    | false => exact p1 σ I1 H1 ok1 (en.mono s1.im) D (fun σ2 I2 H2 g2 ρ2 s2 ok2 en2 p2 => kn σ2 I2 H2 g2 ρ2 (s1.trans s2) ok2 en2 p2) (fun v I2 H2 g2 e s2 ok2 r2 p2 => kr v I2 H2 g2 e (s1.trans s2) ok2 r2 p2) (fun cls σ2 I2 H2 g2 ρ2 s2 ok2 en2 r2 => kx cls σ2 I2 H2 g2 ρ2 (s1.trans s2) ok2 en2 r2)
theorem psx_raise {C : Addr} (h : Rx (.ref C) ρ g) : PStX c W (tRaise0 C W) ρ g Pn Pr Rx := fun σ I H ok en D kn kr kx => kx (.ref C) σ I H g ρ Step.refl ok en h
theorem psx_set {i : Nat} (h : PVX c W te ρ g (fun e g1 => Pn (ρ.set i (some e)) g1) fun cls g1 => Rx cls ρ g1) : PStX c W (tAsg te (gName i)) ρ g Pn Pr Rx := fun σ I H ok en D kn kr kx =>
  h σ I H ok en _ (fun v I1 H1 g1 e s1 ok1 r1 p1 => kn _ I1 H1 g1 _ s1 ok1 ((en.mono s1.im).set i r1) p1) fun cls I1 H1 g1 s1 ok1 r1 => kx cls σ I1 H1 g1 ρ s1 ok1 (en.mono s1.im) r1
/-- the run of a body that may raise -/
theorem body_runX {t : WX → TS} {N : List Str} {vs : List V} {H I : Hp} {Q : VK} {E : XK} {es : List EV} (ok : Ok c I H g) (r : Paired (RelE c.K I) vs es) (k : End c I H g P Q) (x : EndX c I H g R E)
    (h : ∀ W, PStX c W (t W) (startR N.length es) g (fun _ g' => P (.d .none) g') P fun cls _ g' => R cls g') : t (fun cls d _ H' => E cls d H') { nx := fun _ H' => Q .non H', rt := Q } (L2.start N vs) H :=
  h _ _ I H ok (env_start r) _ (fun σ' I' H' g' ρ' s' ok' en' p => k _ I' H' g' (.d .none) s' ok' Dp.non p) k fun cls σ' I' H' g' ρ' s' ok' en' r' => x cls I' H' g' s' ok' r'
theorem okX_go {X : Cx} {body : List Stmt} {tb : WX → TS} {N : List Str} {vs : List V} {H I : Hp} {Q : VK} {E : XK} {es : List EV} (tk : Takes X (fun cls d _ H' => E cls d H')) (hd : ∀ W, Takes X W → PSs X body (tb W)) (ok : Ok c I H g) (r : Paired (RelE c.K I) vs es) (k : End c I H g P Q) (x : EndX c I H g R E)
    (h : ∀ W, PStX c W (tb W) (startR N.length es) g (fun _ g' => P (.d .none) g') P fun cls _ g' => R cls g') : ∃ t, PSs X body t ∧ t { nx := fun _ H' => Q .non H', rt := Q } (L2.start N vs) H := ⟨tb _, hd _ tk, body_runX ok r k x h⟩
end
end Dl
set_option Elab.async false
set_option linter.all false
set_option autoImplicit false
set_option maxRecDepth 100000
set_option maxHeartbeats 4000000
namespace L2
open PySem PySem.Spec PyProof.Rows
end L2
namespace Dl
open PySem PySem.Spec PyProof.Rows L2
section
variable {c : Ctx} {ρ : Rho} {g : c.S} {P : EV → c.S → Prop} {te : TE} {tl : TA}
theorem merge_nodup : ∀ (kvs acc : List (Key × V)), (acc.map (·.1) ++ kvs.map (·.1)).Nodup → mergeK acc kvs = acc ++ kvs
  | [], acc, _ => by simp [mergeK]
  | (k, v) :: r, acc, h => by
    have hk : k ∉ acc.map (·.1) := fun m => by
      rw [List.map_cons, List.nodup_append] at h
      exact h.2.2 k m k List.mem_cons_self rfl
    have e : putK acc k v = acc ++ [(k, v)] := by
      unfold putK
      rw [if_neg]
      rw [List.any_eq_true]
      rintro ⟨x, mx, ex⟩
      exact hk (List.mem_map.mpr ⟨x, mx, of_decide_eq_true ex⟩)
    have : mergeK acc ((k, v) :: r) = mergeK (putK acc k v) r := rfl
    rw [this, e, merge_nodup r (acc ++ [(k, v)]) (by simpa using h)]
    simp
theorem Ok.over {I H : Hp} {p : Addr} {o : HO} (k : Ok c I H g) (hI : I p = none) (hM : ¬ c.M g p) : Ok c (upd I p o) (upd H p o) g :=
  ⟨fun a u e => by
    by_cases z : a = p
    · rw [z, upd_same] at e ⊢; exact e
    · rw [upd_ne z] at e ⊢; exact k.ex a u e, c.jm g I _ H _ k.j (Ex.new hI) fun a m => upd_ne fun e => hM (e ▸ m), fun a m => by
    have ne : a ≠ p := fun e => hM (e ▸ m)
    rw [upd_ne ne]; exact k.out a m⟩
theorem relP_keys {K : PySem.W.Frag} {I : Hp} : ∀ {kvs : List (Key × V)} {es : List (Key × EV)}, Paired (RelP K I) kvs es → kvs.map (·.1) = es.map (·.1) ∧ Paired (RelE K I) (kvs.map (·.2)) (es.map (·.2))
  | _, _, .nil => ⟨rfl, .nil⟩
  | _, _, .cons h t => by
    obtain ⟨h1, h2⟩ := relP_keys t
    exact ⟨by rw [List.map_cons, List.map_cons, h1, h.1], .cons h.2 h2⟩
/-- a dict display that is data -/
theorem pv_dispD {trs : List (TE × TE)} (h : PPr c (tPairs trs) ρ g fun es g1 => ∃ ds, allD (es.map (·.2)) = some ds ∧ es.length ≤ 15 ∧ (es.map (·.1)).Nodup ∧ P (.d (.dict ((es.map (kd ·.1)).zip ds))) g1) : PV c (tDisp trs) ρ g P := fun σ I H ok en Q k p hp => by
  refine h σ I (upd H p (.dK [])) (ok.grow hp) en _ fun kvs I1 H1 g1 es s1 ok1 r1 ⟨ds, e1, hl, nd, p1⟩ => ?_
  have hMg : ¬ c.M g p := fun m => c.mh g I H p ok.j m hp
  have hH1 := s1.keep p _ upd_same hMg
  have hMg1 : ¬ c.M g1 p := fun m => (s1.mm p m).elim hMg fun e => by rw [upd_same] at e; cases e
  have hI1 : I1 p = none := s1.out p _ upd_same rfl (ok.free hp) hMg
  obtain ⟨k1, k2⟩ := relP_keys r1
  have hlen := paired_len r1
  have hds : ds.length = es.length := by
    have a := allD_rel k2 e1
    have := dpAll_len a
    simp at this
    omega
  have hx : Ex I1 (upd I1 p (.dK kvs)) := Ex.new hI1
  refine ⟨hH1, kvs, rfl, by omega, ?_⟩
  rw [merge_nodup kvs [] (by simpa [k1] using nd), List.nil_append]
  refine k _ (upd I1 p (.dK kvs)) _ g1 (.d (.dict ((es.map (kd ·.1)).zip ds))) ⟨s1.im.trans hx, fun a o e n => ?_, fun a o e t n m => ?_, fun a m => ?_, fun a n => ?_⟩ (ok1.over hI1 hMg1) (Dp.dct (es := kvs) upd_same ?_ ?_) p1
  · have ne : a ≠ p := fun z => by rw [z, hp] at e; cases e
    rw [upd_ne ne]
    exact s1.keep a o (by rw [upd_ne ne]; exact e) n
  · have ne : a ≠ p := fun z => by rw [z, hp] at e; cases e
    rw [upd_ne ne]
    exact s1.out a o (by rw [upd_ne ne]; exact e) t n m
  · rcases s1.mm a m with q | q
    · exact .inl q
    · have ne : a ≠ p := fun z => by rw [z, upd_same] at q; cases q
      rw [upd_ne ne] at q
      exact .inr q
  · by_cases z : a = p
    · rw [z, upd_same]; simp
    · rw [upd_ne z]
      exact s1.there a (by rw [upd_ne z]; exact n)
  · rw [List.map_fst_zip (by simp; omega)]
    have : kvs.map (fun x => kd x.1) = (kvs.map (·.1)).map kd := by rw [List.map_map]; rfl
    rw [this, k1, List.map_map]; rfl
  · rw [List.map_snd_zip (by simp; omega)]
    exact dpAll_mono hx _ _ (allD_rel k2 e1)
end
end Dl
set_option Elab.async false
set_option linter.all false
set_option autoImplicit false
set_option maxRecDepth 100000
set_option maxHeartbeats 4000000
namespace L2
open PySem PySem.Spec PyProof.Rows
end L2
namespace Dl
open PySem PySem.Spec PyProof.Rows L2
section
variable {c : Ctx} {ρ : Rho} {g : c.S} {P : EV → c.S → Prop} {te : TE} {tl : TA}
theorem pv_upper (h : PV c te ρ g fun e g1 => ∃ x, e = .d (.str x) ∧ x.length ≤ 1000000 ∧ P (.d (.str (Txt.upper x))) g1) :
    PV c (tBM0 c.K "str" (fun x xs H Q => ∃ a, x = .str a ∧ xs = [] ∧ a.length ≤ 5592405 ∧ Q (.str (Txt.upper a)) H) te) ρ g P := fun σ I H ok en Q k =>
  h σ I H ok en _ fun v I1 H1 g1 e s1 ok1 r1 ⟨x, e1, hx, p1⟩ => by
    subst e1
    cases r1
    exact ⟨rfl, x, rfl, rfl, by omega, k _ I1 H1 g1 (.d (.str _)) s1 ok1 (Dp.str _) p1⟩
end
end Dl
set_option Elab.async false
set_option linter.all false
set_option autoImplicit false
set_option maxRecDepth 100000
set_option maxHeartbeats 4000000
namespace L2
open PySem PySem.Spec PyProof.Rows
section
variable {X : Cx} {C : Addr}
/-- X() as a value -/
def tExcV (C : Addr) : TE := fun σ H Q => ∀ e t, H e = none → H t = none → e ≠ t → Q (.ref e) (upd (upd H t (.tup [])) e (exoT e C t))
theorem pe_excV {x : Str} {p pos : Pos} (T : ExcD X.K X.mg x C) (hg : Gl X x) (hdb : (x == ("__debug__" : Str)) = false := by decide) : PE X (.Call (.Name x p) [] [] pos) (tExcV C) := by
  refine ⟨fun pins s σ H Q I h => ?_⟩
  refine wpAny_Call_Name_kw (ld_glob I hg T.at_ ?_ hdb)
  refine PySem.W.callWith_K0 I.kIn T.kp ?_
  obtain ⟨bm, N, nm, qn, bs, hdct, sn, sub, ab, col, dd, k0, k1, k2, k3, k5, mN, hC, hN, hni, TT⟩ := exc_obj I.kIn T.ex
  refine wpAny_call_exc_subT PySem.F.excBase_ValueError TT hC hN hni (fun h' e hm => ?_) (Nat.zero_le _)
  obtain ⟨t, ht, hnt, htt⟩ := hm.there
  have he : s.heap.get? e = none := hm.new
  have net : e ≠ t := fun z => by
    rw [z, htt] at ht
    cases ht
  obtain ⟨G', g1, g2⟩ := restrict h' fun b => decide (b ≠ e)
  have gk : ∀ b, b ≠ e → G'.get? b = h'.get? b := fun b hb => g1 b (decide_eq_true hb)
  have ge : G'.get? e = none := g2 e (by simp)
  have He : H e = none := I.hok.gone he
  have Ht : H t = none := I.hok.gone hnt
  have old : ∀ b o, s.heap.get? b = some o → G'.get? b = some o := fun b o q => (gk b (fun z => by rw [z, he] at q; cases q)).trans (hm.keeps b o q)
  have I1 : Inv X pins σ (upd H t (.tup [])) { s with heap := G' } := I.laidN (t' := s.toks) old hnt Ht ⟨Nat.zero_le _, [], .nil, ⟨_, (gk t net.symm).trans htt, rfl, _, rfl⟩⟩
  have I2 : Inv X pins σ (upd (upd H t (.tup [])) e (exoT e C t)) { s with heap := h' } := I1.laidN (t' := s.toks) (fun b o q => (gk b (fun z => by rw [z, ge] at q; cases q)).symm.trans q) ge (by rw [upd_ne net]; exact He) (exoT_ok ht)
  exact ⟨.ref e, _, I2, rfl, h e t He Ht net⟩
end
end L2
namespace Dl
open PySem PySem.Spec PyProof.Rows L2
section
variable {c : Ctx} {ρ : Rho} {g : c.S} {P : EV → c.S → Prop}
theorem pv_excV {C : Addr} {x : Str} (q : ExcQ c.K C x) (p : P (.d (.dict [(.none, .str x)])) g) : PV c (tExcV C) ρ g P := fun σ I H ok en Q k e t he ht net => by
  have ok1 := ok.new (o := .tup []) ht
  have s1 := Step.new (o := .tup []) ok ht
  have he1 : (upd H t (.tup [])) e = none := by rw [upd_ne net]; exact he
  exact k (.ref e) _ _ g (.d (.dict [(.none, .str x)])) (s1.trans (Step.new ok1 he1)) (ok1.new he1) (Dp.exc (t := t) q upd_same (by rw [upd_ne net.symm, upd_same])) p
end
/-- plain signs alone -/
def asci (z : Str) : Bool := z.cps.toList.all fun a => decide (a < 128)
theorem asci_iff {z : Str} : asci z = true ↔ ∀ a ∈ z.cps.toList, a < 128 := by
  unfold asci
  rw [List.all_eq_true]
  exact ⟨fun h a m => of_decide_eq_true (h a m), fun h a m => decide_eq_true (h a m)⟩
theorem asci_app {x y : Str} (hx : asci x = true) (hy : asci y = true) : asci (x ++ y) = true := by
  rw [asci_iff] at *
  intro a m
  have e : (x ++ y).cps.toList = x.cps.toList ++ y.cps.toList := by
    show (x.cps ++ y.cps).toList = _
    simp
  rw [e] at m
  rcases List.mem_append.mp m with m | m
  · exact hx a m
  · exact hy a m
theorem asci_cut {x : Str} {lo hi : Option Int} (hx : asci x = true) : asci (cutS x lo hi) = true := by
  rw [asci_iff] at *
  intro a m
  refine hx a ?_
  have m' : a ∈ (x.cps.toList.drop (HT.sIx x.length 0 lo)).take (HT.sIx x.length x.length hi - HT.sIx x.length 0 lo) := by simpa [cutS] using m
  exact List.mem_of_mem_drop (List.mem_of_mem_take m')
theorem asci_upper {x : Str} (hx : asci x = true) : asci (Txt.upper x) = true := by
  rw [asci_iff] at *
  intro a m
  have m2 : a ∈ ((x.cps.mapIdx fun _ c => (Unicode.upperOf c).toArray).flatten) := by
    have : a ∈ (Txt.upper x).cps := by simpa using m
    exact this
  simp only [Array.mem_flatten, Array.mem_mapIdx] at m2
  obtain ⟨l, ⟨i, hi, rfl⟩, ha⟩ := m2
  have hc := hx (x.cps[i]) (by simp)
  have key : ∀ c < 128, (Unicode.upperOf c).all (fun n => decide (n < 128)) = true := by decide +kernel
  have := List.all_eq_true.mp (key _ hc) a (by simpa using ha)
  exact of_decide_eq_true this
theorem len_cut {x : Str} {lo hi : Option Int} : (cutS x lo hi).length ≤ x.length := by
  have e : (cutS x lo hi).length = ((x.cps.toList.drop (HT.sIx x.length 0 lo)).take (HT.sIx x.length x.length hi - HT.sIx x.length 0 lo)).length := by
    show Array.size _ = _
    simp [cutS]
  have e2 : x.length = x.cps.toList.length := Array.length_toList.symm
  rw [e, e2, List.length_take, List.length_drop]
  omega
theorem len_app {x y : Str} : (x ++ y).length = x.length + y.length := by
  show (x.cps ++ y.cps).size = _
  rw [Array.size_append]; rfl
theorem asci_ok {z : Str} (h : asci z = true) : PyData.strOk z = true := by
  rw [asci_iff] at h
  have := strOk_of (ns := z.cps.toList) fun x m => by
    have := h x m
    omega
  simpa using this
mutual
/-- the leaves: whole numbers within B, texts of true signs -/
def okL (B : Int) : PyData → Bool
  | .int i => decide (-B ≤ i) && decide (i ≤ B)
  | .str x => asci x
  | .list xs => okLAll B xs
  | .tuple xs => okLAll B xs
  | .dict kvs => okLKv B kvs
  | _ => true
def okLAll (B : Int) : List PyData → Bool
  | [] => true
  | x :: xs => okL B x && okLAll B xs
def okLKv (B : Int) : List (PyData × PyData) → Bool
  | [] => true
  | (a, b) :: r => okL B a && okL B b && okLKv B r
end
section
variable {B B' : Int}
theorem okLAll_iff : ∀ {xs : List PyData}, okLAll B xs = true ↔ ∀ x ∈ xs, okL B x = true
  | [] => by simp [okLAll]
  | x :: xs => by rw [okLAll, Bool.and_eq_true, okLAll_iff (xs := xs)]; simp
theorem okL_tup {xs : List PyData} : okL B (.tuple xs) = true ↔ ∀ x ∈ xs, okL B x = true := by rw [okL, okLAll_iff]
theorem okL_lst {xs : List PyData} : okL B (.list xs) = true ↔ ∀ x ∈ xs, okL B x = true := by rw [okL, okLAll_iff]
theorem okL_int {i : Int} : okL B (.int i) = true ↔ -B ≤ i ∧ i ≤ B := by rw [okL, Bool.and_eq_true, decide_eq_true_eq, decide_eq_true_eq]
theorem okL_str {x : Str} : okL B (.str x) = true ↔ asci x = true := by rw [okL]
mutual
theorem okL_mono (h : B ≤ B') : ∀ {d : PyData}, okL B d = true → okL B' d = true
  | .none, _ => by rw [okL] <;> simp
  | .bool _, _ => by rw [okL] <;> simp
  | .int i, q => by rw [okL_int] at q ⊢; omega
  | .str x, q => by rw [okL_str] at q ⊢; exact q
  | .list xs, q => by rw [okL] at q ⊢; exact okLAll_mono h q
  | .tuple xs, q => by rw [okL] at q ⊢; exact okLAll_mono h q
  | .dict kvs, q => by rw [okL] at q ⊢; exact okLKv_mono h q
theorem okLAll_mono (h : B ≤ B') : ∀ {xs : List PyData}, okLAll B xs = true → okLAll B' xs = true
  | [], _ => by rw [okLAll]
  | x :: xs, q => by
    rw [okLAll, Bool.and_eq_true] at q
    rw [okLAll, okL_mono h q.1, okLAll_mono h q.2]; rfl
theorem okLKv_mono (h : B ≤ B') : ∀ {xs : List (PyData × PyData)}, okLKv B xs = true → okLKv B' xs = true
  | [], _ => by rw [okLKv]
  | (a, b) :: xs, q => by
    rw [okLKv, Bool.and_eq_true, Bool.and_eq_true] at q
    rw [okLKv, okL_mono h q.1.1, okL_mono h q.1.2, okLKv_mono h q.2]; rfl
end
theorem wAll_append : ∀ (xs ys : List PyData), PyData.weightAll (xs ++ ys) = PyData.weightAll xs + PyData.weightAll ys
  | [], ys => by simp [PyData.weightAll]
  | x :: xs, ys => by rw [List.cons_append, PyData.weightAll, PyData.weightAll, wAll_append xs ys]; omega
theorem wAll_take (n : Nat) : ∀ (xs : List PyData), PyData.weightAll (xs.take n) ≤ PyData.weightAll xs := fun xs => by
  have := wAll_append (xs.take n) (xs.drop n)
  rw [List.take_append_drop] at this
  omega
theorem wAll_drop (n : Nat) : ∀ (xs : List PyData), PyData.weightAll (xs.drop n) ≤ PyData.weightAll xs := fun xs => by
  have := wAll_append (xs.take n) (xs.drop n)
  rw [List.take_append_drop] at this
  omega
theorem wAll_cut {xs : List PyData} {lo hi : Option Int} : PyData.weightAll (cutD xs lo hi) ≤ PyData.weightAll xs := Nat.le_trans (wAll_take _ _) (wAll_drop _ _)
theorem wAll_len : ∀ (xs : List PyData), xs.length ≤ PyData.weightAll xs
  | [] => Nat.zero_le _
  | x :: xs => by
    have := wAll_len xs
    rw [List.length_cons, PyData.weightAll]; omega
theorem wAll_mem : ∀ {xs : List PyData} {x : PyData}, x ∈ xs → x.weight + 1 ≤ PyData.weightAll xs
  | y :: ys, x, m => by
    rw [PyData.weightAll]
    rcases List.mem_cons.mp m with rfl | m
    · omega
    · have := wAll_mem m; omega
mutual
theorem fit_okL (hB : B ≤ 2 ^ 61) : ∀ {d : PyData}, okL B d = true → d.weight ≤ 1000000 → fit d = true
  | .none, _, _ => by rw [fit] <;> simp
  | .bool _, _, _ => by rw [fit] <;> simp
  | .dict _, _, _ => by rw [fit]
  | .int i, h, _ => by rw [okL_int] at h; rw [fit_int]; omega
  | .str x, _, w => by rw [fit_str]; exact ⟨w, trivial⟩
  | .tuple xs, h, w => by
    rw [okL] at h
    have w' : PyData.weightAll xs ≤ 1000000 := by rw [PyData.weight] at w; exact w
    rw [fit, Bool.and_eq_true, decide_eq_true_eq]
    exact ⟨Nat.le_trans (wAll_len xs) w', fitAll_okL hB h w'⟩
  | .list xs, h, w => by
    rw [okL] at h
    have w' : PyData.weightAll xs ≤ 1000000 := by rw [PyData.weight] at w; exact w
    rw [fit, Bool.and_eq_true, decide_eq_true_eq]
    exact ⟨Nat.le_trans (wAll_len xs) w', fitAll_okL hB h w'⟩
theorem fitAll_okL (hB : B ≤ 2 ^ 61) : ∀ {xs : List PyData}, okLAll B xs = true → PyData.weightAll xs ≤ 1000000 → fitAll xs = true
  | [], _, _ => by rw [fitAll]
  | x :: xs, h, w => by
    rw [okLAll, Bool.and_eq_true] at h
    rw [PyData.weightAll] at w
    rw [fitAll, fit_okL hB h.1 (by omega), fitAll_okL hB h.2 (by omega)]; rfl
end
end
abbrev B12 : Int := 1000000000000
/-- of at most such a weight and depth -/
structure Sz (W D : Nat) (d : PyData) : Prop where
  ok : okL B12 d = true
  w : d.weight ≤ W
  dep : d.depth ≤ D
theorem Sz.fit {W D : Nat} {d : PyData} (h : Sz W D d) (hW : W ≤ 1000000) : Dl.fit d = true := fit_okL (by decide) h.ok (Nat.le_trans h.w hW)
theorem Sz.mono {W D W' D' : Nat} {d : PyData} (h : Sz W D d) (hW : W ≤ W') (hD : D ≤ D') : Sz W' D' d := ⟨h.ok, Nat.le_trans h.w hW, Nat.le_trans h.dep hD⟩
theorem int_w {i : Int} (h : okL B12 (.int i) = true) : (PyData.int i).weight ≤ 40 := by
  rw [okL_int] at h
  simp only [B12] at h
  rw [PyData.weight]
  split
  · omega
  · have : i.natAbs ≠ 0 := by
      rename_i e
      intro z
      apply e
      have : i = 0 := by omega
      rw [this]; rfl
    have := (Nat.log2_lt (k := 40) this).mpr (by omega)
    omega
theorem sz_int {i : Int} (h1 : -1000000000000 ≤ i) (h2 : i ≤ 1000000000000) : Sz 40 0 (.int i) := by
  have : okL B12 (.int i) = true := okL_int.mpr ⟨h1, h2⟩
  exact ⟨this, int_w this, by simp [PyData.depth]⟩
theorem sz_none : Sz 0 0 .none := ⟨by rw [okL] <;> simp, by simp [PyData.weight], by simp [PyData.depth]⟩
theorem sz_bool {b : Bool} : Sz 0 0 (.bool b) := ⟨by rw [okL] <;> simp, by simp [PyData.weight], by simp [PyData.depth]⟩
theorem sz_str {z : Str} {n : Nat} (h : asci z = true) (hl : z.length ≤ n) : Sz n 0 (.str z) := ⟨okL_str.mpr h, hl, by simp [PyData.depth]⟩
theorem sz_tup {W D : Nat} {xs : List PyData} (h : ∀ x ∈ xs, okL B12 x = true) (hw : PyData.weightAll xs ≤ W) (hd : ∀ x ∈ xs, x.depth ≤ D) : Sz W (D + 1) (.tuple xs) := by
  refine ⟨okL_tup.mpr h, hw, ?_⟩
  have := depthAll_le hd
  simp only [PyData.depth]; omega
theorem sz_lst {W D : Nat} {xs : List PyData} (h : ∀ x ∈ xs, okL B12 x = true) (hw : PyData.weightAll xs ≤ W) (hd : ∀ x ∈ xs, x.depth ≤ D) : Sz W (D + 1) (.list xs) := by
  refine ⟨okL_lst.mpr h, hw, ?_⟩
  have := depthAll_le hd
  simp only [PyData.depth]; omega
def WellIs (g : Store) (p : Addr) : Prop := ∃ (ns : List Int) (i a m : Int), g p = some (.ml [.d (.list (List.map PyData.int ns)), .d (.int i), .d (.int a), .d (.int m)]) ∧ 0 ≤ i ∧ 0 ≤ a
theorem WellIs.there {g : Store} {p : Addr} (h : WellIs g p) : g p ≠ none := by
  obtain ⟨ns, i, a, m, e, _⟩ := h
  rw [e]; simp
theorem WellIs.kept {g g' : Store} {p q : Addr} (h : WellIs g p) (s : Kept g g' q) (ne : p ≠ q) : WellIs g' p := by
  have t := h.there
  unfold WellIs at h ⊢
  rw [s p ne t]; exact h
abbrev FW_mixed : FT := FL 1 fun g es P => ∃ i : Int, es = [.d (.int i)] ∧ ∀ r, 0 ≤ r → P (.d (.int r)) g
abbrev FW_well : FT := FL 1 fun g es P => ∃ ns : List Int, es = [.d (.list (ns.map .int))] ∧ ns.length ≤ 63 ∧ ∀ q g', g q = none → WellIs g' q → Kept g g' q → P (.r (.ref q)) g'
abbrev FW_filled : FT := FL 1 fun g es P => ∃ p, es = [.r (.ref p)] ∧ WellIs g p ∧ ∀ g' r, WellIs g' p → Kept g g' p → 0 ≤ r → P (.d (.int r)) g'
abbrev FW_draw : FT := FL 2 fun g es P => ∃ p n, es = [.r (.ref p), .d (.int n)] ∧ 1 ≤ n ∧ n < 1099511627776 ∧ WellIs g p ∧ ∀ g' r, WellIs g' p → Kept g g' p → 0 ≤ r → r < n → P (.d (.int r)) g'
abbrev FWd (G : PyData → Prop) : FT := FL 1 fun g es P => ∃ p, es = [.r (.ref p)] ∧ WellIs g p ∧ ∀ g' d, WellIs g' p → Kept g g' p → G d → P (.d d) g'
/-- a good thing, as it is drawn -/
structure Good (p : PyData → Bool) (d : PyData) : Prop where
  ok : p d = true
  sz : Sz 400 1 d
def drawnNum (d : PyData) : Prop := ∃ r : Int, d = .int r ∧ 0 ≤ r ∧ r < 100000000000
def drawnText (d : PyData) : Prop := ∃ z, d = .str z ∧ Good isText (.str z)
abbrev FW_signs : FT := FL 0 fun g es P => es = [] ∧ ∀ z : Str, z.length = 94 → (∀ x ∈ z.cps.toList, isSign x = true) → P (.d (.str z)) g
abbrev FW_string : FT := FL 2 fun g es P => ∃ p n, es = [.r (.ref p), .d (.int n)] ∧ 0 ≤ n ∧ n ≤ 110 ∧ WellIs g p ∧ ∀ g' z, WellIs g' p → Kept g g' p → (z.length : Int) = n → (∀ x ∈ z.cps.toList, isSign x = true) → P (.d (.str z)) g'
def drawnName (d : PyData) : Prop := ∃ z, d = .str z ∧ Good isName (.str z)
def drawnEdit (d : PyData) : Prop := Good isEdit d
def drawnContent (d : PyData) : Prop := Good isContent d
def drawnClient (d : PyData) : Prop := ∃ r : Int, d = .int r ∧ 1 ≤ r ∧ r ≤ 9
end Dl
namespace Dl
open PySem PySem.Spec PyProof.Rows L2
theorem asci_signs {z : Str} (h : ∀ x ∈ z.cps.toList, isSign x = true) : asci z = true := asci_iff.mpr fun x m => by
  have := h x m
  unfold isSign at this
  simp only [Bool.and_eq_true, decide_eq_true_eq] at this
  omega
theorem asci_lows {z : Str} (h : ∀ x ∈ z.cps.toList, x ∈ lows.cps.toList) : asci z = true := asci_iff.mpr fun x m => by
  have k : ∀ a ∈ lows.cps.toList, a < 128 := by decide +kernel
  exact k x (h x m)
theorem text_of {z : Str} (h : ∀ x ∈ z.cps.toList, isSign x = true) (hl : z.length ≤ 96) : isText (.str z) = true := by
  simp only [isText, Bool.and_eq_true, decide_eq_true_eq, List.all_eq_true]
  exact ⟨by omega, h⟩
theorem len_text {z : Str} (h : isText (.str z) = true) : z.length ≤ 96 := by
  simp only [isText, Bool.and_eq_true, decide_eq_true_eq] at h; omega
theorem len_name {z : Str} (h : isName (.str z) = true) : z.length ≤ 8 := by
  simp only [isName, Bool.and_eq_true, decide_eq_true_eq] at h; omega
theorem text_asci {z : Str} (h : isText (.str z) = true) : asci z = true := by
  simp only [isText, Bool.and_eq_true, decide_eq_true_eq, List.all_eq_true] at h
  exact asci_signs h.2
theorem name_asci {z : Str} (h : isName (.str z) = true) : asci z = true := by
  simp only [isName, Bool.and_eq_true, decide_eq_true_eq, List.all_eq_true] at h
  exact asci_lows fun x m => h.2.2 x m
theorem good_text {z : Str} (h : isText (.str z) = true) : Good isText (.str z) := ⟨h, (sz_str (text_asci h) (len_text h)).mono (by decide) (by decide)⟩
theorem good_name {z : Str} (h : isName (.str z) = true) : Good isName (.str z) := ⟨h, (sz_str (name_asci h) (len_name h)).mono (by decide) (by decide)⟩
theorem good_none : Good isContent .none := ⟨rfl, sz_none.mono (by decide) (by decide)⟩
theorem w_int {a : Int} (h0 : -1000000000000 ≤ a) (h1 : a ≤ 1000000000000) : (PyData.int a).weight ≤ 40 := (sz_int h0 h1).w
/-- a word and flat things -/
theorem sz_word {z : Str} {r : List PyData} (hz : asci z = true) (hl : z.length ≤ 10) (hr : ∀ x ∈ r, okL B12 x = true ∧ x.depth = 0) (hw : PyData.weightAll r ≤ 380) : Sz 400 1 (.tuple (.str z :: r)) := by
  refine sz_tup (D := 0) (fun x m => ?_) ?_ fun x m => ?_
  · rcases List.mem_cons.mp m with rfl | m
    · exact okL_str.mpr hz
    · exact (hr x m).1
  · rw [PyData.weightAll]
    have : (PyData.str z).weight ≤ 10 := hl
    omega
  · rcases List.mem_cons.mp m with rfl | m
    · simp [PyData.depth]
    · rw [(hr x m).2]; exact Nat.le_refl _
end Dl
namespace Dl
open PySem PySem.Spec PyProof.Rows L2
theorem sz_w1 {z x : Str} (hz : asci z = true) (hl : z.length ≤ 10) (h : Sz 400 1 (.str x)) (_ : (PyData.str x).depth = 0) (hx : x.length ≤ 96) : Sz 400 1 (.tuple [.str z, .str x]) := sz_word hz hl (by simp [h.ok, PyData.depth]) (by have : (PyData.str x).weight = x.length := rfl; simp only [PyData.weightAll]; omega)
theorem sz_w2 {z : Str} {a b : Int} (hz : asci z = true) (hl : z.length ≤ 10) (ha : Sz 40 0 (.int a)) (hb : Sz 40 0 (.int b)) : Sz 400 1 (.tuple [.str z, .int a, .int b]) := sz_word hz hl (by simp [ha.ok, hb.ok, PyData.depth]) (by have := ha.w; have := hb.w; simp only [PyData.weightAll]; omega)
theorem sz_w3 {z x : Str} {a b : Int} (hz : asci z = true) (hl : z.length ≤ 10) (ha : Sz 40 0 (.int a)) (hb : Sz 40 0 (.int b)) (h : Sz 400 1 (.str x)) (_ : (PyData.str x).depth = 0) (hx : x.length ≤ 96) : Sz 400 1 (.tuple [.str z, .int a, .int b, .str x]) := sz_word hz hl (by simp [h.ok, ha.ok, hb.ok, PyData.depth]) (by have := ha.w; have := hb.w; simp only [PyData.weightAll]; have : (PyData.str x).weight = x.length := rfl; omega)
end Dl
set_option Elab.async false
set_option linter.all false
set_option autoImplicit false
set_option maxRecDepth 100000
set_option maxHeartbeats 4000000
namespace Dl
open PySem PySem.Spec PyProof.Rows L2
section
variable {c : Ctx} {ρ : Rho} {g : c.S} {P : EV → c.S → Prop}
theorem cr_sumZ {X : Cx} {K : PySem.W.Frag} (hc : X.calm = true) (e : X.K = K := by rfl) : CallR X (.builtin "sum") (rSum K) := by subst e; exact cr_sum hc
theorem oc_sum {ns : List Int} (p : P (.d (.int ns.sum)) g) : OC c (rSum c.K) [.d (.list (ns.map .int))] g P := fun I H vs ok r Q k => by
  obtain ⟨v, e, r1⟩ := one_of r
  subst e
  cases r1 with
  | @lst a xs _ hx ax =>
    have e := dpAll_ints ax
    subst e
    exact ⟨a, ns, rfl, ok.ex.seqL hx, k.here (e := .d (.int _)) ok (Dp.int _) p⟩
end
/-- how heavy, how deep a thing of any kind is -/
def wA : Nat → Nat | 0 => 40 | n + 1 => 3 * (wA n + 1) + 30
def dA : Nat → Nat | 0 => 0 | n + 1 => dA n + 2
theorem wA_ge : ∀ n, 40 ≤ wA n
  | 0 => Nat.le_refl _
  | n + 1 => by have := wA_ge n; simp only [wA]; omega
abbrev FW_any (k : Nat) : FT := FL 2 fun g es P => ∃ p n, es = [.r (.ref p), .d (.int n)] ∧ 0 ≤ n ∧ n < k ∧ WellIs g p ∧ ∀ g' d, WellIs g' p → Kept g g' p → Sz (wA n.toNat) (dA n.toNat) d → P (.d d) g'
theorem sz_dict {W D : Nat} {xs : List PyData} (h : Sz W D (.list xs)) : Sz (W + 10) (D + 1) (.dict [(.str "a", .list xs), (.int 1, .none)]) := by
  refine ⟨?_, ?_, ?_⟩
  · have a : asci "a" = true := by decide +kernel
    have b : okL B12 (.int 1) = true := by decide +kernel
    have n := sz_none.ok
    simp only [okL, okLKv, Bool.and_eq_true] at *
    exact ⟨⟨a, h.ok⟩, ⟨by decide, by simp⟩⟩
  · have hw := h.w
    have a : (PyData.str "a").weight = 1 := by decide +kernel
    have b : (PyData.int 1).weight = 1 := by decide +kernel
    simp only [PyData.weight, PyData.weightKv] at *
    omega
  · have hd := h.dep
    simp only [PyData.depth, PyData.depthKv] at *
    omega
theorem sz_exc {x : Str} (h : asci x = true) (hl : x.length ≤ 20) : Sz 22 1 (.dict [(.none, .str x)]) := by
  refine ⟨?_, ?_, ?_⟩
  · simp [okL, okLKv, h]
  · have a : (PyData.str x).weight = x.length := rfl
    simp only [PyData.weight, PyData.weightKv] at *
    omega
  · simp [PyData.depth, PyData.depthKv]
/-- items, each bounded -/
theorem all_bound {W D : Nat} {ds : List PyData} (h : ∀ d ∈ ds, Sz W D d) : (∀ x ∈ ds, okL B12 x = true) ∧ PyData.weightAll ds ≤ ds.length * (W + 1) ∧ ∀ x ∈ ds, x.depth ≤ D := by
  refine ⟨fun x m => (h x m).ok, ?_, fun x m => (h x m).dep⟩
  induction ds with
  | nil => simp [PyData.weightAll]
  | cons x xs ih =>
    have := ih fun d m => h d (List.mem_cons_of_mem _ m)
    have hx := (h x List.mem_cons_self).w
    rw [PyData.weightAll, List.length_cons, Nat.succ_mul]
    omega
mutual
/-- how many tuples and leaves -/
def nodes : PyData → Int
  | .tuple xs => 1 + nodesAll xs
  | _ => 1
def nodesAll : List PyData → Int
  | [] => 0
  | x :: xs => nodes x + nodesAll xs
end
theorem nodesAll_sum : ∀ {xs : List PyData}, nodesAll xs = (xs.map nodes).sum
  | [] => rfl
  | x :: xs => by rw [nodesAll, List.map_cons, List.sum_cons, nodesAll_sum]
mutual
theorem nodes_pos : ∀ {d : PyData}, 1 ≤ nodes d ∧ nodes d ≤ 1 + d.weight
  | .tuple xs => by
    have := nodesAll_pos (xs := xs)
    rw [nodes, PyData.weight]; omega
  | .none => by simp [nodes] <;> omega
  | .bool _ => by simp [nodes] <;> omega
  | .int _ => by simp [nodes] <;> omega
  | .str _ => by simp [nodes] <;> omega
  | .list _ => by simp [nodes] <;> omega
  | .dict _ => by simp [nodes] <;> omega
theorem nodesAll_pos : ∀ {xs : List PyData}, 0 ≤ nodesAll xs ∧ nodesAll xs ≤ PyData.weightAll xs
  | [] => by simp [nodesAll, PyData.weightAll]
  | x :: xs => by
    have := nodes_pos (d := x)
    have := nodesAll_pos (xs := xs)
    rw [nodesAll, PyData.weightAll]; omega
end
/-- the count of a thing's nodes; how deep it may be -/
abbrev F_nodes (k : Nat) : FT := FN 1 fun c g es P => ∃ d, es = [.d d] ∧ d.weight ≤ 1000 ∧ d.depth < k ∧ P (.d (.int (nodes d))) g
abbrev B5 : Int := 500000000000
/-- a thing that was changed at a place -/
structure Spl (d e : PyData) : Prop where
  ok : okL B12 e = true
  w : e.weight ≤ 3 * d.weight + 200
  dep : e.depth ≤ d.depth + 3
abbrev FW_changed : FT := FL 2 fun g es P => ∃ p d, es = [.d d, .r (.ref p)] ∧ WellIs g p ∧ okL B5 d = true ∧ d.weight ≤ 1000 ∧ ∀ g' e, WellIs g' p → Kept g g' p → Spl d e → P (.d e) g'
abbrev FW_spoilt (k : Nat) : FT := FL 3 fun g es P => ∃ p d n, es = [.d d, .d (.int n), .r (.ref p)] ∧ WellIs g p ∧ okL B5 d = true ∧ d.weight ≤ 1000 ∧ d.depth < 3 ∧ d.depth < k ∧ 0 ≤ n ∧ n < nodes d ∧ ∀ g' e, WellIs g' p → Kept g g' p → Spl d e → P (.d e) g'
theorem wAll_cons {x : PyData} {xs : List PyData} : PyData.weightAll (x :: xs) = x.weight + 1 + PyData.weightAll xs := by rw [PyData.weightAll]
theorem spl_any {d e : PyData} {W D : Nat} (h : Sz W D e) (hW : W ≤ 200) (hD : D ≤ 3) : Spl d e := ⟨h.ok, by have := h.w; omega, by have := h.dep; omega⟩
/-- one item of a tuple changed -/
theorem spl_tup {xs ys : List PyData} {x e : PyData} (hx : ∀ y ∈ xs ++ x :: ys, okL B12 y = true) (h : Spl x e) : Spl (.tuple (xs ++ x :: ys)) (.tuple (xs ++ e :: ys)) := by
  refine ⟨okL_tup.mpr fun y m => ?_, ?_, ?_⟩
  · rcases List.mem_append.mp m with m | m
    · exact hx y (List.mem_append_left _ m)
    · rcases List.mem_cons.mp m with rfl | m
      · exact h.ok
      · exact hx y (List.mem_append_right _ (List.mem_cons_of_mem _ m))
  · have := h.w
    simp only [PyData.weight, wAll_append, wAll_cons]
    omega
  · have hd := h.dep
    have k : ∀ (zs : List PyData) (y : PyData), PyData.depthAll (zs ++ y :: ys) ≤ max (PyData.depthAll zs) (max y.depth (PyData.depthAll ys)) ∧ max (PyData.depthAll zs) (max y.depth (PyData.depthAll ys)) ≤ PyData.depthAll (zs ++ y :: ys) := fun zs y => by
      induction zs with
      | nil => simp only [List.nil_append, PyData.depthAll]; omega
      | cons z zs ih => simp only [List.cons_append, PyData.depthAll]; omega
    have k1 := k xs x
    have k2 := k xs e
    simp only [PyData.depth]
    omega
theorem cutD_len {xs : List PyData} {lo hi : Option Int} : (cutD xs lo hi).length ≤ xs.length := by
  unfold cutD
  rw [List.length_take, List.length_drop]; omega
theorem mem_cut {xs : List PyData} {lo hi : Option Int} {x : PyData} (m : x ∈ cutD xs lo hi) : x ∈ xs := List.mem_of_mem_drop (List.mem_of_mem_take m)
theorem okL_512 {d : PyData} (h : okL B5 d = true) : okL B12 d = true := okL_mono (by decide) h
theorem spl_int {d : PyData} {i : Int} (h1 : -1000000000000 ≤ i) (h2 : i ≤ 1000000000000) : Spl d (.int i) := spl_any (sz_int h1 h2) (by decide) (by decide)
theorem spl_str {z y : Str} (h : asci y = true) (hl : y.length ≤ 3 * z.length + 200) : Spl (.str z) (.str y) := ⟨okL_str.mpr h, hl, by simp [PyData.depth]⟩
theorem spl_of {xs ys : List PyData} (h : ∀ x ∈ xs, okL B12 x = true) (hy : ∀ y ∈ ys, y ∈ xs ∨ y = .none) (hw : PyData.weightAll ys ≤ 3 * PyData.weightAll xs + 200) : Spl (.tuple xs) (.tuple ys) ∧ Spl (.tuple xs) (.list ys) := by
  have hd : PyData.depthAll ys ≤ PyData.depthAll xs := depthAll_le fun y m => by
    rcases hy y m with m | rfl
    · exact depth_mem m
    · simp [PyData.depth]
  have ho : ∀ y ∈ ys, okL B12 y = true := fun y m => by
    rcases hy y m with m | rfl
    · exact h y m
    · exact sz_none.ok
  refine ⟨⟨okL_tup.mpr ho, hw, ?_⟩, ⟨okL_lst.mpr ho, hw, ?_⟩⟩ <;> simp only [PyData.depth] <;> omega
theorem spl_self {d : PyData} (h : okL B12 d = true) : Spl d d := ⟨h, by omega, by omega⟩
theorem spl_flat {d x : PyData} (h : Sz 40 1 x) : Spl d x := spl_any h (by decide) (by decide)
theorem nodes_take {xs : List PyData} {i : Nat} (h : i < xs.length) : nodesAll (xs.take (i + 1)) = nodesAll (xs.take i) + nodes xs[i] := by
  rw [nodesAll_sum, nodesAll_sum, List.take_succ_eq_append_getElem h, List.map_append, List.sum_append]
  simp
theorem cut_at {xs : List PyData} {i : Nat} (h : i < xs.length) : xs = xs.take i ++ xs[i] :: xs.drop (i + 1) := by
  rw [← List.drop_eq_getElem_cons h, List.take_append_drop]
end Dl
set_option Elab.async false
set_option linter.all false
set_option autoImplicit false
set_option maxRecDepth 100000
set_option maxHeartbeats 4000000
namespace Dl
open PySem PySem.Spec PyProof.Rows L2
abbrev F_is_int1 : FT := FN 1 fun c g es P => ∃ d, es = [.d d] ∧ P (.d (.bool (isCount d))) g
abbrev F_is_long : FT := FN 2 fun c g es P => ∃ d n, es = [.d d, .d (.int n)] ∧ P (.d (.bool (isTupN n d))) g
def isPair (d : PyData) : Bool := match d with | .tuple [x, y] => isClient x && isNumber y | _ => false
theorem number_int (d : PyData) (h : isNumber d = true) : ∃ i, d = .int i := by cases d <;> first | exact ⟨_, rfl⟩ | cases h
theorem content_of {d : PyData} (h : isContent d = true) : d = .none ∨ ∃ z, d = .str z ∧ isText (.str z) = true := by
  cases d <;> first | exact .inl rfl | exact .inr ⟨_, rfl, h⟩ | cases h
inductive Ed where
  | put (z : Str)
  | splice (a b : Int) (z : Str)
  | remove
  | take (nm : Str)
  | adopt (c n : Int)
  | drop (c n : Int)
def Ed.D : Ed → PyData
  | .put z => .tuple [.str "put", .str z]
  | .splice a b z => .tuple [.str "splice", .int a, .int b, .str z]
  | .remove => .tuple [.str "remove"]
  | .take nm => .tuple [.str "take", .str nm]
  | .adopt c n => .tuple [.str "adopt", .int c, .int n]
  | .drop c n => .tuple [.str "drop", .int c, .int n]
def Ed.Ok : Ed → Prop
  | .put z => isText (.str z) = true
  | .splice a b z => 0 ≤ a ∧ 0 ≤ b ∧ isText (.str z) = true
  | .remove => True
  | .take nm => isName (.str nm) = true
  | .adopt c n => isClient (.int c) = true ∧ isNumber (.int n) = true
  | .drop c n => isClient (.int c) = true ∧ isNumber (.int n) = true
theorem allP_two {a : PyData} {r : List PyData} {p : PyData → Bool} {ps : List (PyData → Bool)} (h : allP r (p :: ps) = true) : ∃ x xs, r = x :: xs ∧ p x = true ∧ allP xs ps = true := by
  cases r with
  | nil => cases h
  | cons x xs =>
    rw [allP, Bool.and_eq_true] at h
    exact ⟨x, xs, rfl, h.1, h.2⟩
theorem allP_nil {r : List PyData} (h : allP r [] = true) : r = [] := by cases r <;> first | rfl | cases h
theorem str_of_text {d : PyData} (h : isText d = true) : ∃ z, d = .str z := by cases d <;> first | exact ⟨_, rfl⟩ | cases h
theorem edit_of {d : PyData} (h : isEdit d = true) : ∃ e : Ed, d = e.D ∧ e.Ok := by
  unfold isEdit byWord at h
  split at h
  · rename_i w r
    split at h
    · rename_i ps hps
      unfold editTests at hps
      by_cases c0 : ("put" : Str) = w
      · rw [if_pos c0] at hps; cases hps; subst c0
        obtain ⟨x, xs, rfl, h1, h2⟩ := allP_two (a := .none) h
        cases allP_nil h2
        obtain ⟨z, rfl⟩ := str_of_text h1
        exact ⟨.put z, rfl, h1⟩
      rw [if_neg c0] at hps
      by_cases c1 : ("splice" : Str) = w
      · rw [if_pos c1] at hps; cases hps; subst c1
        obtain ⟨x, xs, rfl, h1, h2⟩ := allP_two (a := .none) h
        obtain ⟨y, ys, rfl, h3, h4⟩ := allP_two (a := .none) h2
        obtain ⟨t, ts, rfl, h5, h6⟩ := allP_two (a := .none) h4
        cases allP_nil h6
        obtain ⟨a, rfl, a0⟩ := count_of h1
        obtain ⟨b, rfl, b0⟩ := count_of h3
        obtain ⟨z, rfl⟩ := str_of_text h5
        exact ⟨.splice a b z, rfl, a0, b0, h5⟩
      rw [if_neg c1] at hps
      by_cases c2 : ("remove" : Str) = w
      · rw [if_pos c2] at hps; cases hps; subst c2
        cases allP_nil h
        exact ⟨.remove, rfl, trivial⟩
      rw [if_neg c2] at hps
      by_cases c3 : ("take" : Str) = w
      · rw [if_pos c3] at hps; cases hps; subst c3
        obtain ⟨x, xs, rfl, h1, h2⟩ := allP_two (a := .none) h
        cases allP_nil h2
        obtain ⟨z, rfl⟩ := name_of h1
        exact ⟨.take z, rfl, h1⟩
      rw [if_neg c3] at hps
      by_cases c4 : ("adopt" : Str) = w
      · rw [if_pos c4] at hps; cases hps; subst c4
        obtain ⟨x, xs, rfl, h1, h2⟩ := allP_two (a := .none) h
        obtain ⟨y, ys, rfl, h3, h4⟩ := allP_two (a := .none) h2
        cases allP_nil h4
        obtain ⟨c, rfl, -⟩ := client_of h1
        obtain ⟨n, rfl⟩ := number_int _ h3
        exact ⟨.adopt c n, rfl, h1, h3⟩
      rw [if_neg c4] at hps
      by_cases c5 : ("drop" : Str) = w
      · rw [if_pos c5] at hps; cases hps; subst c5
        obtain ⟨x, xs, rfl, h1, h2⟩ := allP_two (a := .none) h
        obtain ⟨y, ys, rfl, h3, h4⟩ := allP_two (a := .none) h2
        cases allP_nil h4
        obtain ⟨c, rfl, -⟩ := client_of h1
        obtain ⟨n, rfl⟩ := number_int _ h3
        exact ⟨.drop c n, rfl, h1, h3⟩
      rw [if_neg c5] at hps
      cases hps
    · cases h
  · cases h
theorem Ed.edit {e : Ed} (h : e.Ok) : isEdit e.D = true := by
  cases e with
  | put z => exact edit_put h
  | splice a b z => exact edit_splice (decide_eq_true h.1) (decide_eq_true h.2.1) h.2.2
  | remove => exact edit_remove
  | take nm => exact edit_take h
  | adopt c n => exact edit_adopt h.1 h.2
  | drop c n => exact edit_drop h.1 h.2
def isNon : PyData → Bool | .none => true | _ => false
def spliceD (t : Str) (a b : Int) (z : Str) : Str := cutS t none (some a) ++ z ++ cutS t (some (a + b)) none
def madeD (tx : PyData) : Ed → Option PyData
  | .put z => some (.str z)
  | .remove => if isNon tx = true then none else some .none
  | .splice a b z => (match tx with
    | .str t => if a + b ≤ (t.length : Int) ∧ (t.length : Int) ≤ 96 + b - (z.length : Int) then some (.str (spliceD t a b z)) else none
    | _ => none)
  | _ => none
def Ed.plain : Ed → Bool | .put _ => true | .splice _ _ _ => true | .remove => true | _ => false
/-- a file's text, or none -/
def txOk (tx : PyData) : Prop := tx = .none ∨ ∃ z : Str, tx = .str z ∧ z.length ≤ 96
theorem tx_ok {d : PyData} (h : isContent d = true) : txOk d := by
  rcases content_of h with q | ⟨z, rfl, q⟩
  · exact .inl q
  · refine .inr ⟨z, rfl, ?_⟩
    simp only [isText, Bool.and_eq_true, decide_eq_true_eq] at q
    omega
abbrev F_canD : FT := FN 2 fun c g es P => ∃ (tx : PyData) (e : Ed), es = [.d tx, .d e.D] ∧ txOk tx ∧ e.Ok ∧ e.plain = true ∧ P (.d (.bool (madeD tx e).isSome)) g
abbrev F_editedD : FT := FN 2 fun c g es P => ∃ (tx : PyData) (e : Ed) (t : PyData), es = [.d tx, .d e.D] ∧ txOk tx ∧ e.Ok ∧ madeD tx e = some t ∧ P (.d t) g
theorem len_le {z : Str} (h : isText (.str z) = true) : z.length ≤ 96 := by
  simp only [isText, Bool.and_eq_true, decide_eq_true_eq] at h
  omega
theorem cutS_len {z : Str} {lo hi : Option Int} : (cutS z lo hi).length ≤ z.length := by
  show ((z.cps.toList.drop _).take _).toArray.size ≤ z.cps.size
  rw [List.size_toArray, List.length_take, List.length_drop, Array.length_toList]
  omega
theorem made_splice (t : Str) (a b : Int) (z : Str) : (madeD (.str t) (.splice a b z)).isSome = (decide (a + b ≤ (t.length : Int)) && decide ((t.length : Int) ≤ 96 + b - (z.length : Int))) := by
  show (if a + b ≤ (t.length : Int) ∧ (t.length : Int) ≤ 96 + b - (z.length : Int) then some (PyData.str (spliceD t a b z)) else none).isSome = _
  by_cases h1 : a + b ≤ (t.length : Int)
  · by_cases h2 : (t.length : Int) ≤ 96 + b - (z.length : Int)
    · rw [if_pos ⟨h1, h2⟩, decide_eq_true h1, decide_eq_true h2]; rfl
    · rw [if_neg (fun h => h2 h.2), decide_eq_false h2, Bool.and_false]; rfl
  · rw [if_neg (fun h => h1 h.1), decide_eq_false h1]; rfl
theorem made_text {t : Str} {a b : Int} {z : Str} {d : PyData} (h : madeD (.str t) (.splice a b z) = some d) : d = .str (spliceD t a b z) ∧ a + b ≤ (t.length : Int) ∧ (t.length : Int) ≤ 96 + b - (z.length : Int) := by
  have e : (if a + b ≤ (t.length : Int) ∧ (t.length : Int) ≤ 96 + b - (z.length : Int) then some (PyData.str (spliceD t a b z)) else none) = some d := h
  split at e
  · rename_i q
    cases e
    exact ⟨rfl, q.1, q.2⟩
  · cases e
theorem allP_no {r : List PyData} {ps : List (PyData → Bool)} (h : r.length ≠ ps.length) : allP r ps = false := by
  cases e : allP r ps with
  | false => rfl
  | true => exact absurd (allP_len e) h
theorem one_of_len {r : List PyData} (h : (r.length : Int) = 1) : ∃ x, r = [x] := by
  match r, h with
  | [x], _ => exact ⟨x, rfl⟩
  | [], h => simp at h
  | _ :: _ :: _, h => simp at h; omega
theorem two_of_len {r : List PyData} (h : (r.length : Int) = 2) : ∃ x y, r = [x, y] := by
  match r, h with
  | [x, y], _ => exact ⟨x, y, rfl⟩
  | [], h => simp at h
  | [_], h => simp at h
  | _ :: _ :: _ :: _, h => simp at h; omega
theorem three_of_len {r : List PyData} (h : (r.length : Int) = 3) : ∃ x y z, r = [x, y, z] := by
  match r, h with
  | [x, y, z], _ => exact ⟨x, y, z, rfl⟩
  | [], h => simp at h
  | [_], h => simp at h
  | [_, _], h => simp at h
  | _ :: _ :: _ :: _ :: _, h => simp at h; omega
theorem edit_no {d : PyData} (h : isWord d = false) : isEdit d = false := byWord_word h
theorem edit_by {w : Str} {r : List PyData} {ps : List (PyData → Bool)} (h : editTests w = some ps) : isEdit (.tuple (.str w :: r)) = allP r ps := byWord_some h
theorem edit_none {w : Str} {r : List PyData} (h1 : w ≠ "remove") (h2 : w ∉ (["put", "take"] : List Str)) (h3 : w ≠ "splice") (h4 : w ∉ (["adopt", "drop"] : List Str)) : isEdit (.tuple (.str w :: r)) = false := by
  simp only [List.mem_cons, List.not_mem_nil, or_false, not_or] at h2 h4
  refine byWord_none ?_
  unfold editTests
  rw [if_neg (Ne.symm h2.1), if_neg (Ne.symm h3), if_neg (Ne.symm h1), if_neg (Ne.symm h2.2), if_neg (Ne.symm h4.1), if_neg (Ne.symm h4.2)]
/-- a plain edit, among all things -/
def plainWord : PyData → Bool | .tuple (.str w :: _) => decide (w ∈ (["put", "splice", "remove"] : List Str)) | _ => false
def isPlainE (d : PyData) : Bool := isEdit d && plainWord d
theorem plain_word : ∀ e : Ed, plainWord e.D = e.plain
  | .put _ => by show decide (("put" : Str) ∈ (["put", "splice", "remove"] : List Str)) = true; decide +kernel
  | .splice _ _ _ => by show decide (("splice" : Str) ∈ (["put", "splice", "remove"] : List Str)) = true; decide +kernel
  | .remove => by show decide (("remove" : Str) ∈ (["put", "splice", "remove"] : List Str)) = true; decide +kernel
  | .take _ => by show decide (("take" : Str) ∈ (["put", "splice", "remove"] : List Str)) = false; decide +kernel
  | .adopt _ _ => by show decide (("adopt" : Str) ∈ (["put", "splice", "remove"] : List Str)) = false; decide +kernel
  | .drop _ _ => by show decide (("drop" : Str) ∈ (["put", "splice", "remove"] : List Str)) = false; decide +kernel
theorem plainE_of {d : PyData} (h : isPlainE d = true) : ∃ e : Ed, d = e.D ∧ e.Ok ∧ e.plain = true := by
  unfold isPlainE at h
  rw [Bool.and_eq_true] at h
  obtain ⟨e, rfl, ho⟩ := edit_of h.1
  exact ⟨e, rfl, ho, by rw [← plain_word]; exact h.2⟩
theorem plainE_is {e : Ed} (ho : e.Ok) : isPlainE e.D = e.plain := by
  unfold isPlainE
  rw [Ed.edit ho, Bool.true_and, plain_word]
/-- what is told of a plain edit -/
def doneD (tx : PyData) (e : Ed) : PyData := match madeD tx e with | some t => .tuple [.str "told", t] | none => .tuple [.str "unfit", .none]
def edOf (d : PyData) : Ed := match d with
  | .tuple [.str w, .str z] => if w = "put" then .put z else .remove
  | .tuple [.str "splice", .int a, .int b, .str z] => .splice a b z
  | _ => .remove
theorem edOf_D {e : Ed} (h : e.plain = true) : edOf e.D = e := by cases e <;> first | rfl | cases h
/-- what is told of any edit of any text -/
def dueD (tx ed : PyData) : PyData := if isContent tx = false then .tuple [.str "text", .none] else if isPlainE ed = false then .tuple [.str "edit", .none] else doneD tx (edOf ed)
abbrev FX_edited (C1 C2 C3 : Addr) : FTX := FNX 2 fun c g es P R => ∃ tx ed, es = [.d tx, .d ed] ∧ fit tx = true ∧ fit ed = true ∧ (isContent tx = false → R (.ref C1) g) ∧ (isContent tx = true → isPlainE ed = false → R (.ref C2) g) ∧
  (∀ e : Ed, isContent tx = true → ed = e.D → e.Ok → e.plain = true → (madeD tx e = none → R (.ref C3) g) ∧ ∀ t, madeD tx e = some t → P (.d t) g)
abbrev F_told2 : FT := FN 2 fun c g es P => ∃ tx ed, es = [.d tx, .d ed] ∧ fit tx = true ∧ fit ed = true ∧ P (.d (dueD tx ed)) g
end Dl
set_option Elab.async false
set_option linter.all false
set_option autoImplicit false
set_option maxRecDepth 100000
set_option maxHeartbeats 4000000
namespace L2
open PySem PySem.Spec PyProof.Rows
def rInsert : V → List V → Hp → VK → Prop := fun x vs H Q => ∃ (l : Addr) (xs : List V) (i : Int) (y : V), x = .ref l ∧ vs = [.int i, y] ∧ H l = some (.lst xs) ∧ xs.length < sizeLine ∧ 0 ≤ i ∧ i < 2 ^ 63 ∧ Q .non (upd H l (.lst (xs.take i.toNat ++ [y] ++ xs.drop i.toNat)))
theorem mt_insertR {X : Cx} : MtR X "list.insert" rInsert := mt_insert
/-- try: .. with several except clauses without names; nothing else leaves the body -/
def tTryMany (K : PySem.W.Frag) (l : List (Value × (Addr → Value → Option Addr → TS))) (tb : WX → TS) : TS := fun D σ H => tb (wMany K (fun _ _ _ _ => False) D l) D σ H
theorem ps_try_manyK {X : Cx} {K : PySem.W.Frag} {body : List Stmt} {h₀ : ExceptHandler} {hds : List ExceptHandler} {l : List (Value × (Addr → Value → Option Addr → TS))} {pos : Pos} {tb : WX → TS} (hs : X.stack = X.env :: X.outer) (hf : X.env.frame = some X.env.locals)
    (hb : ∀ (W : WX) (pn : List (Addr × Obj)) (xe : Value → Shared → Prop), Takes (X.tr pn xe) W → PassesOwn (model X.prog X.w) X.A X.env xe → PSs (X.tr pn xe) body (tb W))
    (hh : HdsOk X (h₀ :: hds) l) (ek : X.K = K := by rfl) : PS X (.Try body (h₀ :: hds) [] [] pos) (tTryMany K l tb) := by
  subst ek
  exact ps_try_many hs hf takes0 hb hh
end L2
namespace Dl
open PySem PySem.Spec PyProof.Rows L2
def del (g : Store) (a : Addr) : Store := fun b => if b = a then none else g b
theorem del_same {g : Store} {a : Addr} : del g a a = none := if_pos rfl
theorem del_ne {g : Store} {a b : Addr} (h : b ≠ a) : del g a b = g b := if_neg h
theorem del_put {g : Store} {a : Addr} {o : MO} (h : g a = none) : del (put g a o) a = g := funext fun b => by
  by_cases e : b = a
  · rw [e, del_same, h]
  · rw [del_ne e, put_ne e]
theorem WellIs.ne {g : Store} {p a : Addr} (h : WellIs g p) (n : g a = none) : a ≠ p := fun e => h.there (by rw [← e]; exact n)
section
variable {K : PySem.W.Frag} {w : World} {I H : Hp} {g : Store} {a : Addr} {ρ : Rho} {te : TE} {P : EV → Store → Prop} {Pn : Rho → Store → Prop} {Pr : EV → Store → Prop} {t : TS}
theorem Ok.freezeV {vs : List V} (k : Ok (sC K) I H g) (h1 : H a = some (.lst vs)) (m : g a ≠ none) : Ok (sC K) (upd I a (.lst vs)) H (del g a) ∧ Step (sC K) I H g (upd I a (.lst vs)) H (del g a) := by
  have hI : I a = none := k.out a m
  have hx : Ex I (upd I a (.lst vs)) := Ex.new hI
  refine ⟨⟨fun b u e => ?_, fun b o e => ?_, fun b m => ?_⟩, ⟨hx, fun b o e _ => e, fun b _ _ _ n m' => ?_, fun b m => ?_, fun _ h => h⟩⟩
  · by_cases z : b = a
    · rw [z, upd_same] at e
      rw [z, h1]; exact e
    · rw [upd_ne z] at e; exact k.ex b u e
  · have z : b ≠ a := fun z => by rw [z, del_same] at e; cases e
    rw [del_ne z] at e
    exact (k.j b o e).mono hx rfl
  · have z : b ≠ a := fun z => m (by rw [z]; exact del_same)
    have m' : g b ≠ none := by rw [← del_ne (g := g) z]; exact m
    rw [upd_ne z]; exact k.out b m'
  · have z : b ≠ a := fun z => m' (by rw [z]; exact m)
    rw [upd_ne z]; exact n
  · have z : b ≠ a := fun z => m (by rw [z]; exact del_same)
    exact .inl (by show g b ≠ none; rw [← del_ne (g := g) z]; exact m)
theorem Ok.freeze {ds : List PyData} (k : Ok (sC K) I H g) (hg : g a = some (.ml (List.map EV.d ds))) : ∃ I', Ok (sC K) I' H (del g a) ∧ Step (sC K) I H g I' H (del g a) ∧ Dp K I' (.ref a) (.list ds) := by
  obtain ⟨vs, h1, h2⟩ := k.j a _ hg
  obtain ⟨ok, s⟩ := k.freezeV h1 (by rw [hg]; simp)
  exact ⟨_, ok, s, .lst (.inl (.inl upd_same)) (dpAll_mono s.im _ _ (paired_dp h2))⟩
theorem set_same {α : Type} {l : List α} {i : Nat} {x : α} (h : l[i]? = some x) : l.set i x = l := by
  apply List.ext_getElem?
  intro j
  by_cases e : i = j
  · subst e
    rw [List.getElem?_set_self (List.getElem?_eq_some_iff.mp h).1, h]
  · rw [List.getElem?_set_ne e]
/-- a list in slot i changes no more -/
theorem ps_freeze (i : Nat) {ds : List PyData} (hi : ρ[i]? = some (some (.r (.ref a)))) (hg : g a = some (.ml (List.map EV.d ds))) (h : PSt (sC K) t (ρ.set i (some (.d (.list ds)))) (del g a) Pn Pr) : PSt (sC K) t ρ g Pn Pr := fun σ I H ok en D kn kr => by
  obtain ⟨I', ok', s', dp⟩ := ok.freeze hg
  obtain ⟨v, hv, r⟩ := en.2 i _ hi
  have r' : v = .ref a := r
  subst r'
  have en' : EnvOk K I' σ (ρ.set i (some (.d (.list ds)))) := by
    have := (en.mono s'.im).set i (v := .ref a) (e := .d (.list ds)) dp
    rwa [set_same hv] at this
  exact h σ I' H ok' en' D (fun σ1 I1 H1 g1 ρ1 s1 ok1 en1 p1 => kn σ1 I1 H1 g1 ρ1 (s'.trans s1) ok1 en1 p1) fun v I1 H1 g1 e s1 ok1 r1 p1 => kr v I1 H1 g1 e (s'.trans s1) ok1 r1 p1
end
section
variable {K : PySem.W.Frag} {ρ : Rho} {g : Store} {P : EV → Store → Prop} {te tl : TE} {tt : TT} {vs : List Nat}
theorem pv_lcMut {wi : TI} {gt : TG} {js : List Nat}
    (h : PIt (sC K) wi gt js ρ g fun n f g1 => (∀ j ∈ js, j ∈ vs) ∧ n < sizeLine ∧ ∃ Inv : Nat → List PyData → Store → Prop, Inv 0 [] g1 ∧
      (∀ i acc g2, i < n → acc.length ≤ i → Inv i acc g2 → PB (sC K) tt (f i (wipeR ρ vs)) g2 fun b g3 => if b = true then PV (sC K) te (f i (wipeR ρ vs)) g3 (fun e g4 => ∃ d, e = .d d ∧ Inv (i + 1) (acc ++ [d]) g4) else Inv (i + 1) acc g3) ∧
      (∀ acc g2 D, g2 D = none → acc.length ≤ n → Inv n acc g2 → P (.r (.ref D)) (put g2 D (.ml (acc.map EV.d))))) : PV (sC K) (tLc wi gt tt te vs) ρ g P := fun σ I H ok en Q k =>
  h σ I H ok en _ fun J n f I1 H1 g1 s1 ok1 W ⟨hj, hn, Iv, i0, turn, fin⟩ D hD => by
    refine ⟨fun i m H' => m = n - i ∧ i ≤ n ∧ ∃ I' g' acc va, Step (sC K) I1 H1 g1 I' H' g' ∧ Ok (sC K) I' H' g' ∧ I' D = none ∧ ¬ (sC K).M g' D ∧ H' D = some (.lst va) ∧ DpAll K I' va acc ∧ acc.length ≤ i ∧ Iv i acc g',
      ⟨n, by simp, Nat.zero_le _, I1, g1, [], [], Step.grow hD, ok1.grow hD, ok1.free hD, fun m => (sC K).mh g1 I1 H1 D ok1.j m hD, upd_same, .nil, Nat.le_refl _, i0⟩, ?_⟩
    rintro i m H' ⟨rfl, hi, I', g', acc, va, s', ok', hID, hMD, hHD, ha, hl, inv⟩
    have hDn : H' D ≠ none := by rw [hHD]; simp
    by_cases hlt : i < n
    · refine .inr ⟨W.go i I' H' g' s'.im ok' hlt, fun H5 => n - (i + 1) < n - i ∧ ∃ I' g' acc va, Step (sC K) I1 H1 g1 I' H5 g' ∧ Ok (sC K) I' H5 g' ∧ I' D = none ∧ ¬ (sC K).M g' D ∧ H5 D = some (.lst va) ∧ DpAll K I' va acc ∧ acc.length ≤ i + 1 ∧ Iv (i + 1) acc g',
        fun H5 q => ⟨n - (i + 1), q.1, rfl, hlt, q.2⟩, fun x H2 hy => ?_⟩
      have en' : EnvOk K I' (wipe σ vs) (wipeR ρ vs) := (en.mono (s1.im.trans s'.im)).wipe vs
      refine W.yld i I' H' g' x H2 s'.im ok' hlt hy _ _ en' _ fun L I2 H3 hL s2 ok2 en2 => ?_
      refine ⟨by rw [wipe_setAll (fun p m => hj _ (hL p m)), wipe_wipe fun _ m => m], ?_⟩
      have nM : ∀ {I2 H2 g2}, Step (sC K) I' H' g' I2 H2 g2 → ¬ (sC K).M g2 D := fun s m => by
        rcases s.mm D m with q | q
        · exact hMD q
        · exact hDn q
      refine turn i acc g' hlt hl inv _ I2 H3 ok2 en2 _ fun b I3 H4 g3 s3 ok3 p3 => ?_
      cases b with
      | true =>
        rw [if_pos rfl] at p3 ⊢
        refine p3 _ I3 H4 ok3 (en2.mono s3.im) _ fun y I4 H5 g4 e s4 ok4 r4 ⟨d, e1, p4⟩ => ?_
        subst e1
        have sA := (s2.trans s3).trans s4
        have hID4 : I4 D = none := sA.out D _ hHD rfl hID hMD
        have hHD4 : H5 D = some (.lst va) := sA.keep D _ hHD hMD
        have hM4 := nM sA
        have lv : va.length = acc.length := dpAll_len ha
        refine ⟨va, hHD4, by rw [lv]; omega, by omega, I4, g4, acc ++ [d], va ++ [y], ?_, ?_, hID4, hM4, upd_same, dpAll_append (dpAll_mono sA.im _ _ ha) (.cons r4 .nil), by rw [List.length_append]; simp; omega, p4⟩
        · have sB := s'.trans sA
          refine ⟨sB.im, fun a o ho hm => ?_, sB.out, sB.mm, fun a ho => ?_⟩
          · have ne : a ≠ D := fun z => by rw [z, hD] at ho; cases ho
            rw [upd_ne ne]; exact sB.keep a o ho hm
          · have ne : a ≠ D := fun z => ho (by rw [z]; exact hD)
            rw [upd_ne ne]; exact sB.there a ho
        · refine ⟨fun a o ho => ?_, (sC K).jm g4 I4 I4 H5 _ ok4.j (Ex.refl I4) fun a m => upd_ne fun z => hM4 (by rw [← z]; exact m), ok4.out⟩
          have ne : a ≠ D := fun z => by rw [z, hID4] at ho; cases ho
          rw [upd_ne ne]; exact ok4.ex a o ho
      | false =>
        rw [if_neg Bool.false_ne_true] at p3 ⊢
        have sA := s2.trans s3
        exact ⟨by omega, I3, g3, acc, va, s'.trans sA, ok3, sA.out D _ hHD rfl hID hMD, nM sA, sA.keep D _ hHD hMD, dpAll_mono sA.im _ _ ha, by omega, p3⟩
    · have e : i = n := by omega
      subst e
      refine .inl ⟨W.stop i I' H' g' s'.im ok' rfl, ?_⟩
      have hgD : g' D = none := Classical.byContradiction fun q => hMD q
      refine k _ I' H' (put g' D (.ml (acc.map EV.d))) (.r (.ref D)) (s1.trans ⟨s'.im, s'.keep, s'.out, fun a m => ?_, s'.there⟩) ⟨ok'.ex, fun a o ho => ?_, fun a m => ?_⟩ rfl (fin acc g' D hgD hl inv)
      · by_cases z : a = D
        · exact .inr (by rw [z]; exact hD)
        · have m' : put g' D (.ml (acc.map EV.d)) a ≠ none := m
          rw [put_ne z] at m'
          exact s'.mm a m'
      · by_cases z : a = D
        · subst z
          rw [put_same] at ho
          cases ho
          exact ⟨va, hHD, dp_paired ha⟩
        · rw [put_ne z] at ho
          exact ok'.j a o ho
      · by_cases z : a = D
        · rw [z]; exact hID
        · have m' : put g' D (.ml (acc.map EV.d)) a ≠ none := m
          rw [put_ne z] at m'
          exact ok'.out a m'
end
theorem paired_erase {α β : Type} {r : α → β → Prop} : ∀ {xs : List α} {ys : List β} (n : Nat), Paired r xs ys → Paired r (xs.eraseIdx n) (ys.eraseIdx n)
  | _, _, _, .nil => .nil
  | _, _, 0, .cons h t => t
  | _, _, n + 1, .cons h t => .cons h (paired_erase n t)
theorem paired_nth {α β : Type} {r : α → β → Prop} : ∀ {xs : List α} {ys : List β} {n : Nat} {y : β}, Paired r xs ys → ys[n]? = some y → ∃ x, xs[n]? = some x ∧ r x y
  | _, _, _, _, .nil, e => by simp at e
  | _, _, 0, _, .cons h t, e => by
    simp at e; subst e
    exact ⟨_, rfl, h⟩
  | _, _, n + 1, _, .cons h t, e => by
    simp at e
    obtain ⟨x, e1, r1⟩ := paired_nth (n := n) t e
    exact ⟨x, by simpa using e1, r1⟩
section
variable {K : PySem.W.Frag} {w : World} {g : Store} {ρ : Rho} {te : TE} {P : EV → Store → Prop}
theorem pv_popI {tl : TA} (h : PV (sC K) te ρ g fun x g1 => ∃ a, x = .r (.ref a) ∧ (∃ es, g1 a = some (.ml es)) ∧ PAs (sC K) tl ρ g1 fun ys g2 => ∃ es e, ∃ k : Nat, ys = [.d (.int k)] ∧ k < 2 ^ 62 ∧ g2 a = some (.ml es) ∧ es[k]? = some e ∧ P e (put g2 a (.ml (es.eraseIdx k)))) :
    PV (sC K) (tBM (sC K).K "list" rPopAt te tl) ρ g P := fun σ I H ok en Q k =>
  h σ I H ok en _ fun v I1 H1 g1 e s1 ok1 r1 ⟨a, e1, ⟨es0, hg0⟩, p1⟩ => by
    subst e1
    have r1' : v = .ref a := r1
    subst r1'
    obtain ⟨vs0, h0, _⟩ := ok1.j a _ hg0
    refine ⟨.inl ⟨rfl, vs0, .inl (.inl h0)⟩, p1 σ I1 H1 ok1 (en.mono s1.im) _ fun us I2 H2 g2 ys s2 ok2 r2 ⟨es, y, n, e2, hn, hg, hy, p2⟩ => ?_⟩
    subst e2
    obtain ⟨u, e3, r3⟩ := one_of r2
    subst e3
    cases r3
    obtain ⟨vs, h1, h2⟩ := ok2.j a _ hg
    obtain ⟨x, hx, rx⟩ := paired_nth h2 hy
    have hlt : n < vs.length := (List.getElem?_eq_some_iff.mp hx).1
    have ha : g2 a ≠ none := by rw [hg]; simp
    refine ⟨a, vs, n, n, x, rfl, rfl, h1, by omega, by omega, ?_, hx, k _ I2 _ _ y ((s1.trans s2).trans (Step.putM (K := K) (o := _) ha)) (ok2.putM ha (relO_ml upd_same (paired_erase n h2))) rx p2⟩
    unfold seqIndex?
    have h0 : ¬ ((n : Int) < 0) := by omega
    have h9 : (decide (0 ≤ (n : Int)) && decide ((n : Int) < (vs.length : Int))) = true := by rw [decide_eq_true (by omega), decide_eq_true (by omega)]; rfl
    simp only [if_neg h0]
    rw [if_pos h9]; rfl
theorem pv_insertI {tl : TA} (h : PV (sC K) te ρ g fun x g1 => ∃ a, x = .r (.ref a) ∧ (∃ es, g1 a = some (.ml es)) ∧ PAs (sC K) tl ρ g1 fun ys g2 => ∃ es y, ∃ k : Nat, ys = [.d (.int k), y] ∧ k < 2 ^ 62 ∧ g2 a = some (.ml es) ∧ es.length < sizeLine ∧ P (.d .none) (put g2 a (.ml (es.take k ++ [y] ++ es.drop k)))) :
    PV (sC K) (tBM (sC K).K "list" rInsert te tl) ρ g P := fun σ I H ok en Q k =>
  h σ I H ok en _ fun v I1 H1 g1 e s1 ok1 r1 ⟨a, e1, ⟨es0, hg0⟩, p1⟩ => by
    subst e1
    have r1' : v = .ref a := r1
    subst r1'
    obtain ⟨vs0, h0, _⟩ := ok1.j a _ hg0
    refine ⟨.inl ⟨rfl, vs0, .inl (.inl h0)⟩, p1 σ I1 H1 ok1 (en.mono s1.im) _ fun us I2 H2 g2 ys s2 ok2 r2 ⟨es, y, n, e2, hn, hg, hz, p2⟩ => ?_⟩
    subst e2
    cases r2 with
    | cons r3 r2 =>
      cases r2 with
      | cons r4 r2 =>
        cases r2
        cases r3
        obtain ⟨vs, h1, h2⟩ := ok2.j a _ hg
        have ha : g2 a ≠ none := by rw [hg]; simp
        refine ⟨a, vs, n, _, rfl, rfl, h1, by rw [paired_len h2]; exact hz, by omega, by omega, k _ I2 _ _ (.d .none) ((s1.trans s2).trans (Step.putM (K := K) (o := _) ha)) (ok2.putM ha (relO_ml upd_same ?_)) Dp.non p2⟩
        exact paired_app (paired_app (paired_take n h2) (.cons r4 .nil)) (paired_drop n h2)
end
section
variable {c : Ctx} {ρ : Rho} {g : c.S} {Pn : Rho → c.S → Prop} {Pr : EV → c.S → Prop}
/-- what each clause does of an error of a class -/
def Hands (c : Ctx) (Pn : Rho → c.S → Prop) (Pr : EV → c.S → Prop) (cls : Value) (ρ1 : Rho) (g1 : c.S) : List (Value × (Addr → Value → Option Addr → TS)) → Prop
  | [] => False
  | (cv, ts) :: r => ∃ b, PySem.W.exmOne c.K cls cv = some b ∧ (b = true → ∀ a, PSt c (ts a cls none) ρ1 g1 Pn Pr) ∧ (b = false → Hands c Pn Pr cls ρ1 g1 r)
theorem ps_tryMany {tb : WX → TS} {l : List (Value × (Addr → Value → Option Addr → TS))} {R : Value → Rho → c.S → Prop} (h : ∀ W, PStX c W (tb W) ρ g Pn Pr R) (hx : ∀ cls ρ1 g1, R cls ρ1 g1 → Hands c Pn Pr cls ρ1 g1 l) : PSt c (tTryMany c.K l tb) ρ g Pn Pr := fun σ I H ok en D kn kr =>
  h _ σ I H ok en D kn kr fun cls σ1 I1 H1 g1 ρ1 s1 ok1 en1 r1 => by
    have hh := hx cls ρ1 g1 r1
    clear hx h
    induction l with
    | nil => exact hh.elim
    | cons y r ih =>
      obtain ⟨cv, ts⟩ := y
      obtain ⟨b, e, h1, h2⟩ := hh
      exact ⟨b, e, fun hb a _ => h1 hb a _ I1 H1 ok1 en1 D (fun σ2 I2 H2 g2 ρ2 s2 ok2 en2 p2 => kn σ2 I2 H2 g2 ρ2 (s1.trans s2) ok2 en2 p2) (fun v I2 H2 g2 e2 s2 ok2 r2 p2 => kr v I2 H2 g2 e2 (s1.trans s2) ok2 r2 p2), fun hb => ih (h2 hb)⟩
end
end Dl
set_option Elab.async false
set_option linter.all false
set_option autoImplicit false
set_option maxRecDepth 100000
set_option maxHeartbeats 4000000
namespace Dl
open PySem PySem.Spec PyProof.Rows L2
theorem wipeR_len : ∀ {vs : List Nat} {ρ : Rho}, (wipeR ρ vs).length = ρ.length
  | [], ρ => rfl
  | v :: vs, ρ => by
    show ((wipeR ρ vs).set v none).length = _
    rw [List.length_set, wipeR_len]
theorem put_put {g : Store} {a : Addr} {o o' : MO} : put (put g a o) a o' = put g a o' := funext fun b => by
  by_cases e : b = a
  · rw [e, put_same, put_same]
  · rw [put_ne e, put_ne e, put_ne e]
abbrev sgL (L : List Nat) : List EV := (L.map sgn).map EV.d
section
variable {K : PySem.W.Frag} {w : World} {g : Store} {ρ : Rho} {te tl : TE} {P : EV → Store → Prop} {vs : List Nat}
theorem pv_lcSigns {j : Nat} (h : PV (sC K) tl ρ g fun e g1 => ∃ z : Str, e = .d (.str z) ∧ j ∈ vs ∧ j < ρ.length ∧ z.length ≤ 1000000 ∧ ∀ D, g1 D = none → P (.r (.ref D)) (put g1 D (.ml (sgL z.cps.toList)))) :
    PV (sC K) (tLc (iStr tl) (gName j) tYes (tVar j) vs) ρ g P := by
  refine pv_lcMut (pit_str (h.imp ?_))
  rintro e g1 ⟨z, e1, hj, hjl, hz, hp⟩
  have hsz : z.cps.size = z.length := rfl
  refine ⟨z, e1, one_mem hj, lt_line (by omega), fun i acc g2 => acc = (z.cps.toList.take i).map sgn ∧ g2 = g1, ⟨by simp, rfl⟩, ?_, ?_⟩
  · rintro i acc g2 hi _ ⟨rfl, rfl⟩
    have ei : z.cps[i]? = some z.cps[i] := Array.getElem?_eq_getElem hi
    refine fun σ I H ok en Q kq => kq true I H g2 Step.refl ok ?_
    dsimp only
    rw [if_pos rfl, stR_at ei]
    refine pv_var (e := .d (.str ⟨#[z.cps[i]]⟩)) ?_ ⟨_, rfl, ?_, rfl⟩
    · rw [List.getElem?_set_self (by rw [wipeR_len]; exact hjl)]
    · have hi' : i < z.cps.toList.length := by rw [Array.length_toList]; exact hi
      rw [List.take_succ_eq_append_getElem hi', List.map_append]
      simp [sgn]
  · rintro acc g2 D hD _ ⟨rfl, rfl⟩
    have e : z.cps.toList.take z.cps.size = z.cps.toList := List.take_of_length_le (by rw [Array.length_toList]; exact Nat.le_refl _)
    rw [e]
    exact hp D hD
end
theorem cutS_D {t : Str} {lo hi : Option Int} : (cutS t lo hi).cps.toList = cutD t.cps.toList lo hi := by
  have e : t.cps.toList.length = t.length := Array.length_toList
  unfold cutS cutD
  rw [e]
theorem splice_signs {t z : Str} {a b : Nat} : (spliceD t a b z).cps.toList = t.cps.toList.take a ++ z.cps.toList ++ t.cps.toList.drop (a + b) := by
  have ap : ∀ x y : Str, (x ++ y).cps.toList = x.cps.toList ++ y.cps.toList := fun x y => by
    show (x.cps ++ y.cps).toList = _
    simp
  unfold spliceD
  rw [ap, ap, cutS_D, cutS_D, cut_take]
  have e : ((a : Int) + (b : Int)) = ((a + b : Nat) : Int) := by omega
  rw [e, cut_drop]
theorem erase_map {α β : Type} {f : α → β} {l : List α} {k : Nat} : (l.map f).eraseIdx k = (l.eraseIdx k).map f := by
  rw [List.eraseIdx_eq_take_drop_succ, List.eraseIdx_eq_take_drop_succ, List.map_append, List.map_take, List.map_drop]
theorem erase_mid {L : List Nat} {a i : Nat} (h : a + i < L.length) : (L.take a ++ L.drop (a + i)).eraseIdx a = L.take a ++ L.drop (a + (i + 1)) := by
  have hl : (L.take a).length = a := by rw [List.length_take]; omega
  rw [List.eraseIdx_eq_take_drop_succ]
  rw [List.take_append_of_le_length (by omega), List.take_of_length_le (by omega)]
  rw [List.drop_append, hl, List.drop_eq_nil_of_le (by omega), List.nil_append, List.drop_drop]
  congr 2
  omega
theorem at_mid {L : List Nat} {a i : Nat} (h : a + i < L.length) : (sgL (L.take a ++ L.drop (a + i)))[a]? = some (.d (sgn L[a + i])) := by
  have hl : (L.take a).length = a := by rw [List.length_take]; omega
  have e : (L.take a ++ L.drop (a + i))[a]? = some L[a + i] := by
    rw [List.getElem?_append_right (by omega), hl, Nat.sub_self, List.getElem?_drop, Nat.add_zero, List.getElem?_eq_getElem h]
  simp only [sgL, List.getElem?_map, e]
  rfl
theorem insert_mid {T Z : List Nat} {a k n : Nat} (ha : a ≤ T.length) (hk : k < Z.length) :
    let L := T.take a ++ Z.take k ++ T.drop n
    (sgL L).take (a + k) ++ [.d (sgn Z[k])] ++ (sgL L).drop (a + k) = sgL (T.take a ++ Z.take (k + 1) ++ T.drop n) := by
  intro L
  have hl : (T.take a ++ Z.take k).length = a + k := by rw [List.length_append, List.length_take, List.length_take]; omega
  have e1 : L.take (a + k) = T.take a ++ Z.take k := by
    show (T.take a ++ Z.take k ++ T.drop n).take (a + k) = _
    rw [List.take_append_of_le_length (by omega), List.take_of_length_le (by omega)]
  have e2 : L.drop (a + k) = T.drop n := by
    show (T.take a ++ Z.take k ++ T.drop n).drop (a + k) = _
    rw [List.drop_append, hl, List.drop_eq_nil_of_le (by omega), Nat.sub_self, List.nil_append, List.drop_zero]
  have e3 : [EV.d (sgn Z[k])] = sgL [Z[k]] := rfl
  simp only [sgL]
  rw [← List.map_take, ← List.map_take, ← List.map_drop, ← List.map_drop, e1, e2, List.take_succ_eq_append_getElem hk]
  simp only [List.map_append, List.map_cons, List.map_nil, List.append_assoc, List.cons_append, List.nil_append]
theorem made_at {t z : Str} {a b : Int} : doneD (.str t) (.splice a b z) = if a + b ≤ (t.length : Int) ∧ (t.length : Int) ≤ 96 + b - (z.length : Int) then .tuple [.str "told", .str (spliceD t a b z)] else .tuple [.str "unfit", .none] := by
  have e : madeD (.str t) (.splice a b z) = if a + b ≤ (t.length : Int) ∧ (t.length : Int) ≤ 96 + b - (z.length : Int) then some (.str (spliceD t a b z)) else none := rfl
  by_cases h : a + b ≤ (t.length : Int) ∧ (t.length : Int) ≤ 96 + b - (z.length : Int)
  · rw [if_pos h] at e
    simp only [doneD, e, if_pos h]
  · rw [if_neg h] at e
    simp only [doneD, e, if_neg h]
abbrev FW_done : FT := FL 2 fun g es P => ∃ (tx : PyData) (e : Ed), es = [.d tx, .d e.D] ∧ isContent tx = true ∧ e.Ok ∧ e.plain = true ∧ P (.d (doneD tx e)) g
end Dl
set_option Elab.async false
set_option linter.all false
set_option autoImplicit false
set_option maxRecDepth 100000
set_option maxHeartbeats 4000000
namespace Dl
open PySem PySem.Spec PyProof.Rows L2
def zMin2 : List V → Hp → VK → Prop := fun xs H Q => ∃ i j, xs = [.int i, .int j] ∧ Q (.int (if j < i then j else i)) H
theorem cr_min2' {X : Cx} (hc : X.calm = true) : CallR X (.builtin "min") zMin2 := call_min2 hc
theorem oc_min2 {c : Ctx} {g : c.S} {P : EV → c.S → Prop} {i j : Int} (p : P (.d (.int (if j < i then j else i))) g) : OC c zMin2 [.d (.int i), .d (.int j)] g P := fun I H vs ok r Q k => by
  obtain ⟨v, u, e, r1, r2⟩ := two_of r
  subst e; cases r1; cases r2
  exact ⟨i, j, rfl, k.here (e := .d (.int _)) ok (Dp.int _) p⟩
theorem o_inLs {c : Ctx} {g : c.S} {P : EV → c.S → Prop} {x : Str} {ds : List PyData} (zs : List Str) (hd : ds = zs.map .str) (p : P (.d (.bool (decide (x ∈ zs)))) g) : O2 c (rIn c.K false) (.d (.str x)) (.d (.list ds)) g P := fun I H xv yv ok rx ry Q k => by
  subst hd
  cases rx
  cases ry with
  | @lst a xs _ hx ax =>
    have e := dpAll_strs ax
    subst e
    refine ⟨a, _, rfl, .inl (ok.ex.seqL hx), rfl, by simp [flatV], ?_⟩
    rw [if_neg (by decide), inV_strs]
    exact k.here (e := .d (.bool _)) ok (Dp.bl _) p
theorem cut_mid2 {α : Type} {xs : List α} (a b : Nat) (ha : a ≤ b) : cutD xs (some (a : Int)) (some (b : Int)) = (xs.drop a).take (b - a) := by
  unfold cutD
  rw [HT.sIx_nat, HT.sIx_nat]
  by_cases h : b ≤ xs.length
  · rw [Nat.min_eq_left h, Nat.min_eq_left (Nat.le_trans ha h)]
  · rw [Nat.min_eq_right (by omega)]
    by_cases h2 : a ≤ xs.length
    · rw [Nat.min_eq_left h2, List.take_of_length_le (by rw [List.length_drop]; omega), List.take_of_length_le (by rw [List.length_drop]; omega)]
    · rw [Nat.min_eq_right (by omega), List.drop_of_length_le (by omega), List.drop_of_length_le (by omega), List.take_nil, List.take_nil]
theorem str_ext {x y : Str} (h : x.cps.toList = y.cps.toList) : x = y := by
  cases x; cases y
  simp only at h
  rw [Array.ext' h]
theorem text_all {z : Str} (h : isText (.str z) = true) : ∀ x ∈ z.cps.toList, isSign x = true := by
  simp only [isText, Bool.and_eq_true, decide_eq_true_eq, List.all_eq_true] at h
  exact h.2
theorem text_cut {z : Str} {lo hi : Option Int} (h : isText (.str z) = true) : isText (.str (cutS z lo hi)) = true := by
  refine text_of (fun x m => text_all h x ?_) (Nat.le_trans len_cut (len_text h))
  rw [cutS_D] at m
  exact List.mem_of_mem_drop (List.mem_of_mem_take m)
theorem splice_len {t z : Str} {a b : Nat} (h : a + b ≤ t.length) : (spliceD t a b z).length = t.length - b + z.length := by
  have eT : t.cps.toList.length = t.length := Array.length_toList
  have eZ : z.cps.toList.length = z.length := Array.length_toList
  have eS : (spliceD t a b z).cps.toList.length = (spliceD t a b z).length := Array.length_toList
  rw [← eS, splice_signs]
  simp only [List.length_append, List.length_take, List.length_drop]
  omega
theorem splice_text {t z : Str} {a b : Nat} (ht : isText (.str t) = true) (hz : isText (.str z) = true) (h1 : a + b ≤ t.length) (h2 : t.length + z.length ≤ 96 + b) : isText (.str (spliceD t a b z)) = true := by
  refine text_of (fun x m => ?_) (by rw [splice_len h1]; omega)
  rw [splice_signs] at m
  rcases List.mem_append.mp m with m | m
  · rcases List.mem_append.mp m with m | m
    · exact text_all ht x (List.mem_of_mem_take m)
    · exact text_all hz x m
  · exact text_all ht x (List.mem_of_mem_drop m)
theorem made_content {tx t : PyData} {e : Ed} (hc : isContent tx = true) (ho : e.Ok) (hm : madeD tx e = some t) : isContent t = true := by
  cases e with
  | put z => cases hm; exact ho
  | remove =>
    rcases content_of hc with rfl | ⟨x, rfl, hx⟩
    · cases hm
    · cases hm; rfl
  | splice a b z =>
    rcases content_of hc with rfl | ⟨x, rfl, hx⟩
    · cases hm
    · obtain ⟨rfl, h1, h2⟩ := made_text hm
      obtain ⟨a, rfl⟩ := Int.eq_ofNat_of_zero_le ho.1
      obtain ⟨b, rfl⟩ := Int.eq_ofNat_of_zero_le ho.2.1
      exact splice_text hx ho.2.2 (by omega) (by omega)
  | take => cases hm
  | adopt => cases hm
  | drop => cases hm
/-- what can be compared -/
structure Cmp (d : PyData) : Prop where
  fit : Dl.fit d = true
  lay : d.canLay0 = true
  dep : d.depth ≤ 3
theorem cmp_text {z : Str} (h : isText (.str z) = true) : Cmp (.str z) := ⟨(good_text h).sz.fit (by decide), by rw [PyData.canLay0]; exact asci_ok (text_asci h), by simp [PyData.depth]⟩
theorem cmp_content {d : PyData} (h : isContent d = true) : Cmp d := by
  rcases content_of h with rfl | ⟨z, rfl, hz⟩
  · exact ⟨by rw [Dl.fit] <;> simp, by rw [PyData.canLay0], by simp [PyData.depth]⟩
  · exact cmp_text hz
theorem cmp_word {w : Str} {t : PyData} (hw : PyData.strOk w = true) (hl : w.length ≤ 10) (h : isContent t = true) : Cmp (.tuple [.str w, t]) := by
  have c := cmp_content h
  have hd : t.depth = 0 := by rcases content_of h with rfl | ⟨z, rfl, hz⟩ <;> simp [PyData.depth]
  refine ⟨fit_tup.mpr ⟨by simp, fun x m => ?_⟩, ?_, ?_⟩
  · simp only [List.mem_cons, List.not_mem_nil, or_false] at m
    rcases m with rfl | rfl
    · exact fit_str.mpr ⟨by omega, trivial⟩
    · exact c.fit
  · simp [PyData.canLay0, PyData.canLayAll0, hw, c.lay]
  · simp [PyData.depth, PyData.depthAll, hd]
theorem done_cmp {tx : PyData} {e : Ed} (hc : isContent tx = true) (ho : e.Ok) : ∃ w t, doneD tx e = .tuple [.str w, t] ∧ isContent t = true ∧ (w = "told" ∨ w = "unfit") ∧ Cmp (doneD tx e) := by
  unfold doneD
  cases hm : madeD tx e with
  | none => exact ⟨_, _, rfl, rfl, .inr rfl, cmp_word (by decide +kernel) (by decide) rfl⟩
  | some t => exact ⟨_, _, rfl, made_content hc ho hm, .inl rfl, cmp_word (by decide +kernel) (by decide) (made_content hc ho hm)⟩
theorem due_plain {tx : PyData} {e : Ed} (hc : isContent tx = true) (ho : e.Ok) (hp : e.plain = true) : dueD tx e.D = doneD tx e := by
  unfold dueD
  rw [hc, plainE_is ho, hp, edOf_D hp]; rfl
theorem due_cmp (tx ed : PyData) : Cmp (dueD tx ed) := by
  unfold dueD
  split
  · exact cmp_word (by decide +kernel) (by decide) rfl
  · rename_i h1
    split
    · exact cmp_word (by decide +kernel) (by decide) rfl
    · rename_i h2
      obtain ⟨e, rfl, ho, hp⟩ := plainE_of (d := ed) (by simpa using h2)
      rw [edOf_D hp]
      obtain ⟨_, _, _, _, _, c⟩ := done_cmp (tx := tx) (by simpa using h1) ho
      exact c
/-- a splice, and back -/
theorem splice_back {t z : Str} {a b : Nat} (h : a + b ≤ t.length) : spliceD (spliceD t a b z) a z.length (cutS t (some a) (some ((a : Int) + b))) = t := by
  have eT : t.cps.toList.length = t.length := Array.length_toList
  have eZ : z.cps.toList.length = z.length := Array.length_toList
  apply str_ext
  have e : ((a : Int) + (b : Int)) = ((a + b : Nat) : Int) := by omega
  rw [splice_signs, splice_signs, cutS_D, e, cut_mid2 a (a + b) (by omega)]
  generalize t.cps.toList = T at *
  generalize z.cps.toList = Z at *
  have l1 : (T.take a).length = a := by rw [List.length_take]; omega
  have e1 : (T.take a ++ Z ++ T.drop (a + b)).take a = T.take a := by
    rw [List.append_assoc, List.take_append_of_le_length (by omega), List.take_of_length_le (by omega)]
  have e2 : (T.take a ++ Z ++ T.drop (a + b)).drop (a + z.length) = T.drop (a + b) := by
    have l2 : (T.take a ++ Z).length = a + z.length := by rw [List.length_append, l1, eZ]
    rw [List.drop_append, l2, List.drop_eq_nil_of_le (by omega), Nat.sub_self, List.nil_append, List.drop_zero]
  rw [e1, e2]
  have e3 : a + b - a = b := by omega
  rw [e3, List.append_assoc]
  have e4 : T.drop (a + b) = (T.drop a).drop b := by rw [List.drop_drop]
  rw [e4, List.take_append_drop, List.take_append_drop]
theorem splice_half {t z : Str} {a b : Nat} (h : a + b ≤ t.length) : spliceD (spliceD t a b "") a 0 z = spliceD t a b z := by
  have eT : t.cps.toList.length = t.length := Array.length_toList
  apply str_ext
  have ez : (0 : Int) = ((0 : Nat) : Int) := rfl
  have e0 : ("" : Str).cps.toList = [] := by decide +kernel
  rw [ez, splice_signs, splice_signs, splice_signs, e0]
  generalize t.cps.toList = T at *
  have l1 : (T.take a).length = a := by rw [List.length_take]; omega
  rw [List.append_nil, Nat.add_zero, List.take_append_of_le_length (by omega), List.take_of_length_le (by omega), List.drop_append, l1, List.drop_eq_nil_of_le (by omega), Nat.sub_self, List.nil_append, List.drop_zero]
theorem ed_small {e : Ed} (ho : e.Ok) (hp : e.plain = true) (h : ∀ a b z, e = .splice a b z → a ≤ 1000 ∧ b ≤ 1000) : okL B5 e.D = true ∧ e.D.weight ≤ 400 ∧ e.D.depth < 2 := by
  cases e with
  | put z =>
    have q := sz_w1 (z := "put") (x := z) (by decide +kernel) (by decide) (good_text ho).sz (by simp [PyData.depth]) (len_text ho)
    refine ⟨okL_tup.mpr fun x m => ?_, q.w, Nat.lt_succ_of_le q.dep⟩
    simp only [List.mem_cons, List.not_mem_nil, or_false] at m
    rcases m with rfl | rfl
    · exact okL_str.mpr (by decide +kernel)
    · exact okL_str.mpr (text_asci ho)
  | remove => exact ⟨by decide +kernel, by decide +kernel, by decide +kernel⟩
  | splice a b z =>
    obtain ⟨h1, h2⟩ := h a b z rfl
    have o1 := ho.1
    have o2 := ho.2.1
    have q := sz_w3 (z := "splice") (x := z) (a := a) (b := b) (by decide +kernel) (by decide) (sz_int (by omega) (by omega)) (sz_int (by omega) (by omega)) (good_text ho.2.2).sz (by simp [PyData.depth]) (len_text ho.2.2)
    refine ⟨okL_tup.mpr fun x m => ?_, q.w, Nat.lt_succ_of_le q.dep⟩
    simp only [List.mem_cons, List.not_mem_nil, or_false] at m
    rcases m with rfl | rfl | rfl | rfl
    · exact okL_str.mpr (by decide +kernel)
    · exact okL_int.mpr (by simp only [B5]; omega)
    · exact okL_int.mpr (by simp only [B5]; omega)
    · exact okL_str.mpr (text_asci ho.2.2)
  | take => cases hp
  | adopt => cases hp
  | drop => cases hp
theorem fit_splice {a b : Int} {z : Str} (a0 : 0 ≤ a) (a1 : a ≤ 1000) (b0 : 0 ≤ b) (b1 : b ≤ 1000) (hz : isText (.str z) = true) : fit (.tuple [.str "splice", .int a, .int b, .str z]) = true := by
  obtain ⟨q1, q2, -⟩ := ed_small (e := .splice a b z) ⟨a0, b0, hz⟩ rfl (fun _ _ _ h => by cases h; exact ⟨a1, b1⟩)
  exact fit_okL (B := B5) (by decide) q1 (Nat.le_trans q2 (by decide))
theorem cut_len2 {t : Str} {a b : Nat} (h : a + b ≤ t.length) : (cutS t (some (a : Int)) (some ((a : Int) + b))).length = b := by
  have eT : t.cps.toList.length = t.length := Array.length_toList
  have eS : (cutS t (some (a : Int)) (some ((a : Int) + b))).cps.toList.length = (cutS t (some (a : Int)) (some ((a : Int) + b))).length := Array.length_toList
  have e : ((a : Int) + (b : Int)) = ((a + b : Nat) : Int) := by omega
  rw [← eS, cutS_D, e, cut_mid2 a (a + b) (by omega), List.length_take, List.length_drop]
  omega
abbrev FW_due : FT := FL 2 fun g es P => ∃ tx ed, es = [.d tx, .d ed] ∧ fit tx = true ∧ fit ed = true ∧ P (.d (dueD tx ed)) g
abbrev FW_back : FT := FL 3 fun g es P => ∃ (t z : Str) (a b : Nat), es = [.d (.str t), .d (Ed.splice a b z).D, .d (.str (spliceD t a b z))] ∧ isText (.str t) = true ∧ isText (.str z) = true ∧ a + b ≤ t.length ∧ t.length + z.length ≤ 96 + b ∧ P (.d (.bool true)) g
abbrev FW_plain : FT := FL 2 fun g es P => ∃ p tx, es = [.r (.ref p), .d tx] ∧ isContent tx = true ∧ WellIs g p ∧ ∀ g' (e : Ed), WellIs g' p → Kept g g' p → e.Ok → e.plain = true → okL B5 e.D = true → e.D.weight ≤ 400 → e.D.depth < 2 → P (.d e.D) g'
abbrev FW_oddT : FT := FL 2 fun g es P => ∃ p tx, es = [.r (.ref p), .d tx] ∧ isContent tx = true ∧ WellIs g p ∧ ∀ g' d, WellIs g' p → Kept g g' p → fit d = true → P (.d d) g'
abbrev FW_oddE : FT := FL 2 fun g es P => ∃ p d, es = [.r (.ref p), .d d] ∧ okL B5 d = true ∧ d.weight ≤ 400 ∧ d.depth < 2 ∧ WellIs g p ∧ ∀ g' e, WellIs g' p → Kept g g' p → fit e = true → P (.d e) g'
abbrev F_alikeC (k : Nat) : FT := FN 2 fun c g es P => ∃ d, es = [.d d, .d d] ∧ isContent d = true ∧ 0 < k ∧ P (.d (.bool true)) g
end Dl
set_option Elab.async false
set_option linter.all false
set_option autoImplicit false
set_option maxRecDepth 100000
set_option maxHeartbeats 4000000
namespace Dl
open PySem PySem.Spec PyProof.Rows L2
def rMulS : R2 := fun x y H Q => ∃ (z : Str) (k : Int), x = .str z ∧ y = .int k ∧ MulOk z k ∧ Q (.str (Txt.mul z k)) H
theorem op_mulS {X : Cx} : OpR X (binaryOp .Mult) rMulS := by
  intro pins s σ H x y v u Q I rx ry h
  obtain ⟨z, k, rfl, rfl, hok, q⟩ := h
  obtain ⟨t, rfl⟩ := rx
  obtain ⟨t', rfl⟩ := ry
  exact SB.mul hok fun t2 k2 => ⟨.str (Txt.mul z k), H, I.tok _, ⟨_, rfl⟩, q⟩
theorem o_mulS {c : Ctx} {g : c.S} {P : EV → c.S → Prop} {z : Str} {k : Int} (hok : MulOk z k) (p : P (.d (.str (Txt.mul z k))) g) : O2 c rMulS (.d (.str z)) (.d (.int k)) g P := fun I H xv yv ok rx ry Q q => by
  cases rx
  cases ry
  exact ⟨z, k, rfl, rfl, hok, q.here (e := .d (.str _)) ok (Dp.str _) p⟩
theorem mulOk_small {z : Str} {k : Nat} (hz : z.length ≤ 1000) (hk : k ≤ 1000) : MulOk z (k : Int) := by
  refine ⟨?_, fun h0 h1 h2 => ?_, fun h0 h1 => ?_⟩
  · rw [decide_eq_false (by omega), decide_eq_false (by omega)]; rfl
  · have k0 : (0 : Int) < k := by omega
    have : (1000 : Int) ≤ (2 ^ 63 - 1) / (k : Int) := by
      rw [Int.le_ediv_iff_mul_le k0]; omega
    omega
  · have : z.length * k ≤ 1000 * 1000 := Nat.mul_le_mul hz hk
    rw [Int.toNat_natCast]
    show decide (z.length * k > sizeLine) = false
    exact decide_eq_false (by have : (1000 * 1000 : Nat) ≤ sizeLine := le_line (Nat.le_of_ble_eq_true rfl); omega)
theorem Spl.fit {d e : PyData} (h : Spl d e) (hw : d.weight ≤ 400) : Dl.fit e = true := fit_okL (B := B12) (by decide) h.ok (by have := h.w; omega)
theorem B5.fit {d : PyData} (h : okL Dl.B5 d = true) (hw : d.weight ≤ 400) : Dl.fit d = true := fit_okL (B := Dl.B5) (by decide) h (by omega)
end Dl
set_option Elab.async false
set_option linter.all false
set_option autoImplicit false
set_option maxRecDepth 100000
set_option maxHeartbeats 4000000
namespace Dl
open PySem PySem.Spec PyProof.Rows L2
def IsTupV (K : PySem.W.Frag) (a : Addr) (xs : List V) : Prop := ∃ its, IsTup K a its ∧ its.length ≤ 1000 ∧ Vals xs its
theorem IsTupV.sq {K : PySem.W.Frag} {a : Addr} {xs : List V} (h : IsTupV K a xs) (H : Hp) : SqT K H a xs := by
  obtain ⟨its, t, hl, v⟩ := h
  exact t.sq hl v H
section
variable {K : PySem.W.Frag}
theorem tupC_ok {a : Addr} {vs : List V} (h : tupC K a vs = true) : IsTupV K a vs := by
  unfold tupC at h
  cases q : K.lookup a with
  | none => rw [q] at h; cases h
  | some o =>
    obtain ⟨oc, od, dt, osl⟩ := o
    rw [q] at h
    cases oc with
    | type c =>
      cases dt with
      | seq its n =>
        obtain ⟨h1, h2⟩ := He.ba (show (decide (c = "tuple") && (Nat.ble its.toList.length 1000 && He.relAll vs its.toList)) = true from h)
        obtain ⟨h3, h4⟩ := He.ba h2
        have e : c = "tuple" := of_decide_eq_true h1
        subst e
        exact ⟨its.toList, ⟨od, n, osl, by rw [q]⟩, Nat.le_of_ble_eq_true h3, He.relAll_ok h4⟩
      | _ => cases h
    | _ => cases dt <;> cases h
theorem int_ns {x : Str} {i : Int} (c : (Fx.fa (.int x i)).ok K = true) : ∃ t, PySem.W.nsIn K mainGlobals x = some (some (.int i t)) := by
  have c2 : (match PySem.W.nsIn K mainGlobals x with
    | some (some (.int j _)) => decide (j = i)
    | _ => false) = true := c
  cases e : PySem.W.nsIn K mainGlobals x with
  | none => rw [e] at c2; cases c2
  | some o =>
    rw [e] at c2
    cases o with
    | none => cases c2
    | some v =>
      cases v with
      | int j t =>
        have ej : j = i := of_decide_eq_true c2
        exact ⟨t, by rw [ej]⟩
      | _ => cases c2
theorem str_ns {x z : Str} (c : (Fx.fa (.str x z)).ok K = true) : ∃ t, PySem.W.nsIn K mainGlobals x = some (some (.str z t)) := by
  have c2 : (match PySem.W.nsIn K mainGlobals x with
    | some (some (.str y _)) => decide (y = z)
    | _ => false) = true := c
  cases e : PySem.W.nsIn K mainGlobals x with
  | none => rw [e] at c2; cases c2
  | some o =>
    rw [e] at c2
    cases o with
    | none => cases c2
    | some v =>
      cases v with
      | str y t =>
        have ej : y = z := of_decide_eq_true c2
        exact ⟨t, by rw [ej]⟩
      | _ => cases c2
theorem free_ns {x : Str} (c : (Fx.fa (.free x)).ok K = true) : PySem.W.nsIn K mainGlobals x = some none := He.eqO_ok c
theorem glo_ns {x : Str} (c : (Fx.fa (.glo x)).ok K = true) : PySem.W.nsIn K mainGlobals x = some (some (.ref (He.ga K x))) := He.eqO_ok c
theorem va_ns {n k : Str} (c : (Fx.va n k).ok K = true) : PySem.W.nsIn K (He.ga K n) k = some (some (.ref (dvA K (He.ga K n) k))) := He.eqO_ok c
theorem tp_ns {a : PySem.W.Frag → Addr} {vs : List He.Dv} (c : (Fx.tp a vs).ok K = true) : IsTupV K (a K) (vs.map (He.Dv.v K)) := tupC_ok c
theorem df_is {x : Str} {st : Stmt} (c : (Fx.df x).ok K = true) (e : He.fnObs K (fnT x st).at_ = (fnT x st).val) : IsDef K x st (He.ga K x) := by
  obtain ⟨c1, c2⟩ := He.ba c
  obtain ⟨c3, c4⟩ := He.ba c2
  obtain ⟨oc, od, osl, kV, doc, pm, an, cdv, ct, l, cd⟩ := He.fn_ok (d := fnT x st) e c4
  exact ⟨He.eqO_ok c1, c3, oc, od, an, osl, kV, doc, pm, cdv, ct, l, cd⟩
theorem isOB_ok {o : Option Bool} {b : Bool} (h : isOB o b = true) : o = some b := by
  cases o with
  | none => cases h
  | some c => cases c <;> cases b <;> first | rfl | cases h
theorem isTy_ok {o : Option Value} {n : String} (h : isTy o n = true) : o = some (.type n) := by
  unfold isTy at h
  split at h
  · rw [of_decide_eq_true h]
  · cases h
structure IsErr (K : PySem.W.Frag) (x : Str) (C : Addr) : Prop where
  a : PySem.W.nsIn K mainGlobals x = some (some (.ref C))
  ex : PySem.W.excIn K C [.type "ValueError", .type "Exception", .type "BaseException", .type "object"] "ValueError.__new__" = true
  kp : PySem.W.keepIn K (.ref C) = true
  sb : PySem.W.subIn K (.ref C) (.type "BaseException") = some true
  ty : PySem.W.typeIn K (.ref C) = some (.type "type")
  is_ : ExcC K C
theorem IsErr.d {x : Str} {C : Addr} {h : Heap} {mg : Str → Option Value} (e : IsErr K x C) (X : K.In h) (G : h.Ns mainGlobals mg) : ExcD K mg x C := ⟨PySem.W.mg_of X G e.a, e.ex, e.kp, e.sb, e.ty, e.is_⟩
theorem ex_is {x : Str} (c : (Fx.ex x).ok K = true) : IsErr K x (He.ga K x) := by
  obtain ⟨c1, c2⟩ := He.ba c
  obtain ⟨a, b⟩ := He.ba c2
  obtain ⟨a1, a2⟩ := He.ba a
  obtain ⟨a2, a3⟩ := He.ba a2
  obtain ⟨a3, a4⟩ := He.ba a3
  obtain ⟨b1, b2⟩ := He.ba b
  obtain ⟨b1, b3⟩ := He.ba b1
  obtain ⟨b3, b4⟩ := He.ba b3
  obtain ⟨b4, b5⟩ := He.ba b4
  obtain ⟨b2, b6⟩ := He.ba b2
  obtain ⟨b6, b7⟩ := He.ba b6
  exact ⟨He.eqO_ok c1, a1, a2, isOB_ok a3, isTy_ok a4, ⟨He.eqO_ok b1, He.eqO_ok b3, isOB_ok a3, b4, He.eqO_ok b5, He.eqO_ok b2, isOB_ok b6, isOB_ok b7⟩⟩
theorem xq_is {x : Str} (c : (Fx.xq x).ok K = true) : ExcQ K (He.ga K x) x := by
  obtain ⟨c1, c2⟩ := He.ba c
  obtain ⟨c3, c4⟩ := He.ba c2
  refine ⟨(ex_is (x := x) c1).is_, fun T m => isOB_ok (List.all_eq_true.mp c3 T m), ?_⟩
  cases e : PySem.W.clsIn K (He.ga K x) with
  | none => rw [e] at c4; cases c4
  | some r =>
    rw [e] at c4
    exact congrArg some (of_decide_eq_true c4)
theorem xm_is {d l : Str} {b : Bool} (c : (Fx.xm d l b).ok K = true) : PySem.W.exmOne K (.ref (He.ga K d)) (.ref (He.ga K l)) = some b := isOB_ok c
theorem defX_of {P : Program} {w : World} {mg : Str → Option Value} {base : Heap} {k : Nat} {x : Str} {st : Stmt} {f : Addr} {fd : FuncData} {ps : List Str} {sp : Sp} {h : Heap} (I : IsDef K x st f) (X : K.In h) (G : h.Ns mainGlobals mg) (F : Fun K x x st f fd) (o : FnOk P w K mg base (L2.CX P w) k f fd ps sp) (b : Binds K fd ps []) : L2.DefX P w K mg base k x f fd ps sp :=
  ⟨o, PySem.W.mg_of X G I.a, I.k, b⟩
theorem keysAre_of {P : Params} : ∀ {l : List DictEntry} {ks : List Str}, l.map He.keyOf = He.keysIn P ks → keysAre l ks
  | [], [], _ => trivial
  | [], k :: ks, h => by cases h
  | e :: r, [], h => by cases h
  | e :: r, k :: ks, h => by
    have h1 : He.keyOf e :: r.map He.keyOf = some (k, PyData.keyHash P k) :: He.keysIn P ks := h
    injection h1 with h2 h3
    refine ⟨?_, keysAre_of h3⟩
    unfold He.keyOf at h2
    split at h2
    · rename_i x t q
      obtain ⟨h5, h6⟩ := Prod.mk.inj (Option.some.inj h2)
      exact ⟨t, by rw [q, h5]⟩
    · cases h2
theorem tab_is {w : World} {a : Addr} {ks : List Str} (h : He.dicW K a = some (He.keysIn w.params ks)) : ∃ es n, IsTab K w a ks es n := by
  obtain ⟨es, n, hd⟩ := He.dicW_ok h
  refine ⟨es, n, hd, ?_⟩
  unfold He.dicW at h
  rw [hd.at_] at h
  cases q : (a == sysModules) with
  | true =>
    simp [q] at h
  | false =>
    simp [q] at h
    exact keysAre_of h
end
section
variable {fx : List Fx} {fn : List He.FnD} {ts : List (Str × List Str)} {w : World} {K : PySem.W.Frag}
theorem SaysH.x (c : SaysH fx fn ts w K) (i : Nat) {f : Fx} (h : fx[i]? = some f) : f.ok K = true := by
  have c1 : (fx.all fun f => f.ok K) = true := congrArg (fun z : AlH => z.1) c
  exact List.all_eq_true.mp c1 f (List.mem_of_getElem? h)
theorem SaysH.f (c : SaysH fx fn ts w K) (i : Nat) {d : He.FnD} (h : fn[i]? = some d) : He.fnObs K d.at_ = d.val := by
  have e : fn.map (fun d => He.fnObs K d.at_) = fn.map He.FnD.val := congrArg (fun z : AlH => z.2.1) c
  have e2 : (fn.map fun d => He.fnObs K d.at_)[i]? = (fn.map He.FnD.val)[i]? := by rw [e]
  rw [List.getElem?_map, List.getElem?_map, h] at e2
  exact Option.some.inj e2
theorem SaysH.t (c : SaysH fx fn ts w K) (i : Nat) {t : Str × List Str} (h : ts[i]? = some t) : ∃ es n, IsTab K w (He.ga K t.1) t.2 es n := by
  have e : (ts.map fun t => He.dicW K (He.ga K t.1)) = ts.map fun t => some (He.keysIn w.params t.2) := congrArg (fun z : AlH => z.2.2) c
  have e2 : (ts.map fun t => He.dicW K (He.ga K t.1))[i]? = (ts.map fun t => some (He.keysIn w.params t.2))[i]? := by rw [e]
  rw [List.getElem?_map, List.getElem?_map, h] at e2
  exact tab_is (Option.some.inj e2)
end
/-- the law's end -/
theorem walkH {l : PySem.W.OpenLaw} {q : Program} {loose : List Str} {XP : (Str → Option Value) → Heap → Prop} {d : DefRec} {fx : List Fx} {fn : List He.FnD} {ts : List (Str × List Str)} {k : Nat} (hn : l.most = some 63) (hdf : d.params.defaults = []) (hd : d.name = "law") (hr : Room k callerA)
    (F : ∀ (w : World) (K : PySem.W.Frag) (mg : Str → Option Value) (fa : Addr) (h : Heap), K.In h → SaysH fx fn ts w K → h.Ns mainGlobals mg → mg "law" = some (.ref fa) →
      ∃ fd : FuncData, (∀ (s : Shared) (u : Value), BindsTo s fd ⟨[u], []⟩ [("_law_script", u)]) ∧ ∀ base : Heap, K.In base → base.Ns mainGlobals mg → FnOk l.prog w K mg base CX0 k fa fd ["_law_script"] (spLaw K)) :
    PySem.W.WalkO q loose XP (hookH fx fn ts).says l.row.toRowW d [] (fun f vs => PySem.call f vs) :=
  L2.walk_ofE (n := 63) (k := k) (x := "_law_script") (CX := CX0) hn (by decide) hdf hr (fun w mg fa h Y G hmg => by
    obtain ⟨K, KX, c⟩ := Y
    rw [hd] at hmg
    obtain ⟨fd, hb, hF⟩ := F w K mg fa h KX c G hmg
    exact ⟨K, fd, spLaw K, KX, hb, fun H a ns hl _ hS => ⟨a, ns, rfl, hS, hl, fun _ => rfl⟩, hF⟩) fun _ _ _ _ z => z
end Dl
set_option Elab.async false
set_option linter.all false
set_option autoImplicit false
set_option maxRecDepth 100000
set_option maxHeartbeats 4000000
set_option pp.maxSteps 500
namespace Pr
open PySem PySem.Spec PyProof.Rows L2 Dl
def topS (i : Nat) : Stmt := PySem.Challenge.pw_leasefiles_k02_whole_edits_of_texts.main.body.getD i (.Pass ⟨0, 0, 0, 0⟩)
abbrev s_is_integer : Stmt := topS 7
theorem sc_is_integer : FnScope ["thing"] ["thing"] (defScope s_is_integer) := ⟨rfl, rfl, rfl, by decide +kernel, rfl, by decide +kernel, by decide +kernel⟩
abbrev s_is_between : Stmt := topS 8
theorem sc_is_between : FnScope ["thing", "least", "most"] ["thing", "least", "most"] (defScope s_is_between) := ⟨rfl, rfl, rfl, by decide +kernel, rfl, by decide +kernel, by decide +kernel⟩
abbrev s_is_count : Stmt := topS 9
theorem sc_is_count : FnScope ["thing"] ["thing"] (defScope s_is_count) := ⟨rfl, rfl, rfl, by decide +kernel, rfl, by decide +kernel, by decide +kernel⟩
abbrev s_is_client : Stmt := topS 21
theorem sc_is_client : FnScope ["thing"] ["thing"] (defScope s_is_client) := ⟨rfl, rfl, rfl, by decide +kernel, rfl, by decide +kernel, by decide +kernel⟩
abbrev s_is_name : Stmt := topS 22
theorem sc_is_name : FnScope ["thing", "sign"] ["thing"] (defScope s_is_name) := ⟨rfl, rfl, rfl, by decide +kernel, rfl, by decide +kernel, by decide +kernel⟩
abbrev s_is_text : Stmt := topS 23
theorem sc_is_text : FnScope ["thing", "sign"] ["thing"] (defScope s_is_text) := ⟨rfl, rfl, rfl, by decide +kernel, rfl, by decide +kernel, by decide +kernel⟩
abbrev s_is_content : Stmt := topS 24
theorem sc_is_content : FnScope ["thing"] ["thing"] (defScope s_is_content) := ⟨rfl, rfl, rfl, by decide +kernel, rfl, by decide +kernel, by decide +kernel⟩
abbrev s_is_number : Stmt := topS 25
theorem sc_is_number : FnScope ["thing"] ["thing"] (defScope s_is_number) := ⟨rfl, rfl, rfl, by decide +kernel, rfl, by decide +kernel, by decide +kernel⟩
abbrev s_are_all : Stmt := topS 27
theorem sc_are_all : FnScope ["things", "tests", "test", "one"] ["things", "tests"] (defScope s_are_all) := ⟨rfl, rfl, rfl, by decide +kernel, rfl, by decide +kernel, by decide +kernel⟩
abbrev s_has_word : Stmt := topS 28
theorem sc_has_word : FnScope ["thing"] ["thing"] (defScope s_has_word) := ⟨rfl, rfl, rfl, by decide +kernel, rfl, by decide +kernel, by decide +kernel⟩
abbrev s_is_edit : Stmt := topS 29
theorem sc_is_edit : FnScope ["thing"] ["thing"] (defScope s_is_edit) := ⟨rfl, rfl, rfl, by decide +kernel, rfl, by decide +kernel, by decide +kernel⟩
abbrev s_is_plain_edit : Stmt := topS 30
theorem sc_is_plain_edit : FnScope ["thing"] ["thing"] (defScope s_is_plain_edit) := ⟨rfl, rfl, rfl, by decide +kernel, rfl, by decide +kernel, by decide +kernel⟩
abbrev s_can_be_done : Stmt := topS 31
theorem sc_can_be_done : FnScope ["text", "edit", "at", "gone", "more"] ["text", "edit"] (defScope s_can_be_done) := ⟨rfl, rfl, rfl, by decide +kernel, rfl, by decide +kernel, by decide +kernel⟩
abbrev s_raw_edited : Stmt := topS 32
theorem sc_raw_edited : FnScope ["text", "edit", "at", "gone", "more"] ["text", "edit"] (defScope s_raw_edited) := ⟨rfl, rfl, rfl, by decide +kernel, rfl, by decide +kernel, by decide +kernel⟩
abbrev s_edited : Stmt := topS 33
theorem sc_edited : FnScope ["text", "edit"] ["text", "edit"] (defScope s_edited) := ⟨rfl, rfl, rfl, by decide +kernel, rfl, by decide +kernel, by decide +kernel⟩
theorem ite_t {b : Bool} {X Y : Prop} (e : b = true) (h : X) : if b = true then X else Y := by rw [if_pos e]; exact h
theorem ite_f {b : Bool} {X Y : Prop} (e : b = false) (h : Y) : if b = true then X else Y := by rw [if_neg (by rw [e]; exact Bool.false_ne_true)]; exact h
theorem ite_b {b : Bool} {X Y : Prop} (h1 : b = true → X) (h2 : b = false → Y) : if b = true then X else Y := by
  cases b with
  | true => exact h1 rfl
  | false => exact h2 rfl
local macro_rules | `(tactic| walk_at "dl1") => `(tactic| first
  | ((with_reducible show PSt _ _ _ _ _ _); first
    | (with_reducible refine ps_seq ?_)
    | (with_reducible refine ps_ret ?_)
    | (with_reducible refine ps_if ?_)
    | (with_reducible refine ps_set ?_)
    | (with_reducible refine ps_next ?_)
    | (with_reducible refine ps_drop ?_))
  | ((with_reducible show PV _ _ _ _ _); first
    | ((with_reducible refine' pv_var ?k1 ?_); (case k1 => rfl))
    | (with_reducible refine pv_int ?_)
    | (with_reducible refine pv_str ?_)
    | (with_reducible refine pv_bl ?_)
    | (with_reducible refine pv_non ?_)
    | (with_reducible refine pv_and ?_)
    | (with_reducible refine pv_or ?_)
    | (with_reducible refine pv_not ?_)
    | (with_reducible refine pv_if ?_)
    | (with_reducible refine pv_op ?_)
    | (with_reducible refine pv_un ?_)
    | (with_reducible refine pv_chain ?_)
    | (with_reducible refine pv_tup ?_)
    | (with_reducible refine pv_lst2 ?_)
    | (with_reducible refine pv_call ?_)
    | (with_reducible refine pv_allT ?_)
    | (with_reducible refine pv_allS ?_)
    | (with_reducible refine pv_allR ?_)
    | (with_reducible refine pv_lcT ?_)
    | (with_reducible refine pv_lcL ?_)
    | (with_reducible refine pv_lcTF ?_)
    | (with_reducible refine pv_listRg2 ?_)
    | (with_reducible refine pv_cb ?_)
    | (with_reducible refine pv_sl ?_)
    | ((with_reducible refine' pv_const ?k1 ?_); (case k1 => assumption))
    | (with_reducible refine pv_raw ?_))
  | ((with_reducible show O2 _ _ _ _ _ _); first
    | (with_reducible refine o_add ?_)
    | (with_reducible refine o_ii ?_)
    | (with_reducible refine o_ib ?_)
    | (with_reducible refine o_le ?_)
    | (with_reducible refine o_lt ?_)
    | (with_reducible refine o_eqI ?_)
    | (with_reducible refine o_neI ?_)
    | (with_reducible refine o_eqS ?_)
    | (with_reducible refine o_eqB ?_)
    | (with_reducible refine o_neB ?_)
    | (with_reducible refine o_leS ?_)
    | (with_reducible refine o_inS ?_)
    | ((with_reducible refine' o_isN ?k1 ?_); (case k1 => rfl))
    | ((with_reducible refine' o_notN ?k1 ?_); (case k1 => rfl))
    | (with_reducible refine o_isntB ?_)
    | ((with_reducible refine' o_ixT ?k1 ?_); (case k1 => first | exact at0 | exact at1 | rfl)))
  | ((with_reducible show OC _ _ _ _ _); first
    | (with_reducible refine oc_isi (isT_int _) ?_)
    | (with_reducible refine oc_isi (isT_bool _) ?_)
    | (with_reducible refine oc_isi (isT_str _) ?_)
    | (with_reducible refine oc_isi (isT_tuple _) ?_)
    | (with_reducible refine oc_isi (isT_list _) ?_)
    | (with_reducible refine oc_lenT ?_)
    | (with_reducible refine oc_lenL ?_)
    | (with_reducible refine oc_lenR ?_)
    | ((with_reducible refine oc_lenS ?k1 ?_); (case k1 => assumption)))
  | ((with_reducible show PAs _ _ _ _ _); first
    | (with_reducible refine pas_nil ?_)
    | (with_reducible refine pas_cons ?_))
  | ((with_reducible show PB _ _ _ _ _); first
    | (with_reducible refine pb_test' ?_)
    | (with_reducible refine pb_B ?_)
    | (with_reducible refine pb_and ?_)
    | (with_reducible refine pb_or ?_)
    | (with_reducible refine pb_not ?_))
  | ((with_reducible show PPart _ _ _ _ _); first
    | (with_reducible refine pp_none ?_)
    | (with_reducible refine pp_some ?_))
  | ((with_reducible show OSl _ _ _ _ _ _ _); first
    | (with_reducible refine os_tup ?_))
  | ((with_reducible refine ite_t ?k1 ?_); (case k1 => rfl))
  | ((with_reducible refine ite_f ?k1 ?_); (case k1 => rfl))
  | ((with_reducible refine use_FJ ?k1 ?_); (case k1 => first | rfl | assumption))
  | (with_reducible refine use_is_between ?_)
  | (with_reducible refine use_is_tuple_of ?_)
  | (refine Or.inl (Exists.intro _ (And.intro rfl (And.intro (le_line (Nat.le_of_ble_eq_true rfl)) ?_))))
  | (refine Or.inr (Exists.intro _ (And.intro rfl (And.intro (le_line (Nat.le_of_ble_eq_true rfl)) ?_))))
  | (with_reducible refine Exists.intro _ (And.intro rfl ?_))
  | ((with_reducible refine And.intro ?k1 ?_); (case k1 => exact le_line (Nat.le_of_ble_eq_true rfl))))
local macro_rules | `(tactic| walk_at "dl") => `(tactic| repeat walk_at "dl1")
variable {P : Program} {w : World} {K : PySem.W.Frag} {mg : Str → Option Value} {base : Heap}
theorem ok_is_integer {f : Addr} {fd : FuncData} (F : Fun K "is_integer" "is_integer" s_is_integer f fd)   (B : Blt mg)  : FnOk P w K mg base CX0 1 f fd ["thing"] (SpF K F_is_integer) := by
  refine F.ok sc_is_integer (fun vs H Q E h => ?_) (fun cdv A outer s H vs Q E hr h => ?_)
  · exact lenF h fun c g es P h => h.1
  obtain ⟨c, I, g, es, P, rfl, ok, r, hF, k⟩ := h
  have nd := sc_is_integer.nd
  have hu := hr.units
  have hu1 := hu_of hr
  refine ⟨_, (pss_one (L2.ps_ret (pe_and (pe_callB (cr_isi (K := c.K)) (by rfl) B.isinstance_ (by decide +kernel) (pa_cons (pv 0) (pa_cons (pe_bltn (v := .ty "int") (by rfl) B.int_ PyProof.Rows.boot_int rfl) pa_nil))) (pe_one (pe_not (pe_callB (cr_isi (K := c.K)) (by rfl) B.isinstance_ (by decide +kernel) (pa_cons (pv 0) (pa_cons (pe_bltn (v := .ty "bool") (by rfl) B.bool_ PyProof.Rows.boot_bool rfl) pa_nil)))))))), body_run ok r k ?_⟩
  obtain ⟨-, d, rfl, -, hP⟩ := hF
  cases d <;> walk_at "dl" <;> exact hP
theorem ok_is_between {f : Addr} {fd : FuncData} (F : Fun K "is_between" "is_between" s_is_between f fd)   {f_is_integer : Addr} {fd_is_integer : FuncData} {ps_is_integer : List Str} (D_is_integer : L2.Def P w K mg base 1 "is_integer" f_is_integer fd_is_integer ps_is_integer (SpF K F_is_integer))  : FnOk P w K mg base CX0 2 f fd ["thing", "least", "most"] (SpF K F_is_between) := by
  refine F.ok sc_is_between (fun vs H Q E h => ?_) (fun cdv A outer s H vs Q E hr h => ?_)
  · exact lenF h fun c g es P h => h.1
  obtain ⟨c, I, g, es, P, rfl, ok, r, hF, k⟩ := h
  have nd := sc_is_between.nd
  have hu := hr.units
  have hu1 := hu_of hr
  refine ⟨_, (pss_one (L2.ps_ret (pe_and (pe_call D_is_integer.ok (hr.mono (by first | decide | omega)) rfl D_is_integer.at_ D_is_integer.kp D_is_integer.bd .nil pass0 (pa_cons (pv 0) pa_nil)) (pe_one (pe_chain op_zle op_zle (pv 1) (pv 0) (pv 2)))))), body_run ok r k ?_⟩
  obtain ⟨-, d, a, b, rfl, hP⟩ := hF
  walk_at "dl"
  refine ite_b (fun hb => ?_) (fun hb => ?_)
  · obtain ⟨i, rfl⟩ := int_of hb
    walk_at "dl"
    refine ite_b (fun h1 => ?_) (fun h1 => ?_)
    · walk_at "dl"
      exact fin hP (by simp [isBtw, h1])
    · exact fin hP (by simp [isBtw, h1])
  · exact fin hP (by cases d <;> first | rfl | cases hb)
theorem ok_is_count {f : Addr} {fd : FuncData} (F : Fun K "is_count" "is_count" s_is_count f fd)   {f_is_integer : Addr} {fd_is_integer : FuncData} {ps_is_integer : List Str} (D_is_integer : L2.Def P w K mg base 1 "is_integer" f_is_integer fd_is_integer ps_is_integer (SpF K F_is_integer))  : FnOk P w K mg base CX0 2 f fd ["thing"] (SpF K F_is_count) := by
  refine F.ok sc_is_count (fun vs H Q E h => ?_) (fun cdv A outer s H vs Q E hr h => ?_)
  · exact lenF h fun c g es P h => h.1
  obtain ⟨c, I, g, es, P, rfl, ok, r, hF, k⟩ := h
  have nd := sc_is_count.nd
  have hu := hr.units
  have hu1 := hu_of hr
  refine ⟨_, (pss_one (L2.ps_ret (pe_and (pe_call D_is_integer.ok (hr.mono (by first | decide | omega)) rfl D_is_integer.at_ D_is_integer.kp D_is_integer.bd .nil pass0 (pa_cons (pv 0) pa_nil)) (pe_one (pe_cmpR op_ge (pv 0) pe_int (nomark _)))))), body_run ok r k ?_⟩
  obtain ⟨-, d, rfl, -, hP⟩ := hF
  walk_at "dl"
  refine ite_b (fun hb => ?_) (fun hb => ?_)
  · obtain ⟨i, rfl⟩ := int_of hb
    walk_at "dl"
    exact hP
  · exact fin hP (by cases d <;> first | rfl | cases hb)
theorem ok_is_client {f : Addr} {fd : FuncData} (F : Fun K "is_client" "is_client" s_is_client f fd)   {t_MOST_CLIENTS : Tok} (C_MOST_CLIENTS : mg "MOST_CLIENTS" = some (.int 9 t_MOST_CLIENTS)) {f_is_between : Addr} {fd_is_between : FuncData} {ps_is_between : List Str} (D_is_between : L2.Def P w K mg base 2 "is_between" f_is_between fd_is_between ps_is_between (SpF K F_is_between))  : FnOk P w K mg base CX0 3 f fd ["thing"] (SpF K (FJ any' isClient)) := by
  refine F.ok sc_is_client (fun vs H Q E h => ?_) (fun cdv A outer s H vs Q E hr h => ?_)
  · exact lenF h fun c g es P h => h.1
  obtain ⟨c, I, g, es, P, rfl, ok, r, hF, k⟩ := h
  have nd := sc_is_client.nd
  have hu := hr.units
  have hu1 := hu_of hr
  refine ⟨_, (pss_one (L2.ps_ret (pe_call D_is_between.ok (hr.mono (by first | decide | omega)) rfl D_is_between.at_ D_is_between.kp D_is_between.bd .nil pass0 (pa_cons (pv 0) (pa_cons pe_int (pa_cons (pe_glob (v := .int 9) (by rfl) C_MOST_CLIENTS ⟨_, rfl⟩) pa_nil)))))), body_run ok r k ?_⟩
  obtain ⟨-, d, rfl, -, hP⟩ := hF
  walk_at "dl"
  exact hP
theorem ok_is_number {f : Addr} {fd : FuncData} (F : Fun K "is_number" "is_number" s_is_number f fd)   {f_is_integer : Addr} {fd_is_integer : FuncData} {ps_is_integer : List Str} (D_is_integer : L2.Def P w K mg base 1 "is_integer" f_is_integer fd_is_integer ps_is_integer (SpF K F_is_integer))  : FnOk P w K mg base CX0 2 f fd ["thing"] (SpF K (FJ any' isNumber)) := by
  refine F.ok sc_is_number (fun vs H Q E h => ?_) (fun cdv A outer s H vs Q E hr h => ?_)
  · exact lenF h fun c g es P h => h.1
  obtain ⟨c, I, g, es, P, rfl, ok, r, hF, k⟩ := h
  have nd := sc_is_number.nd
  have hu := hr.units
  have hu1 := hu_of hr
  refine ⟨_, (pss_one (L2.ps_ret (pe_and (pe_call D_is_integer.ok (hr.mono (by first | decide | omega)) rfl D_is_integer.at_ D_is_integer.kp D_is_integer.bd .nil pass0 (pa_cons (pv 0) pa_nil)) (pe_one (pe_cmpR op_ge (pv 0) pe_int (nomark _)))))), body_run ok r k ?_⟩
  obtain ⟨-, d, rfl, -, hP⟩ := hF
  walk_at "dl"
  refine ite_b (fun hb => ?_) (fun hb => ?_)
  · obtain ⟨i, rfl⟩ := int_of hb
    walk_at "dl"
    exact hP
  · exact fin hP (by cases d <;> first | rfl | cases hb)
theorem ok_is_name {f : Addr} {fd : FuncData} (F : Fun K "is_name" "is_name" s_is_name f fd)   (B : Blt mg) {t_MOST_IN_NAME : Tok} (C_MOST_IN_NAME : mg "MOST_IN_NAME" = some (.int 8 t_MOST_IN_NAME)) {t_SIGNS : Tok} (C_SIGNS : mg "SIGNS" = some (.str "abcdefghijklmnopqrstuvwxyz" t_SIGNS))  : FnOk P w K mg base CX0 1 f fd ["thing"] (SpF K (FJ fit isName)) := by
  refine F.ok sc_is_name (fun vs H Q E h => ?_) (fun cdv A outer s H vs Q E hr h => ?_)
  · exact lenF h fun c g es P h => h.1
  obtain ⟨c, I, g, es, P, rfl, ok, r, hF, k⟩ := h
  have nd := sc_is_name.nd
  have hu := hr.units
  have hu1 := hu_of hr
  refine ⟨_, (pss_one (L2.ps_ret (pe_and (pe_callB (cr_isi (K := c.K)) (by rfl) B.isinstance_ (by decide +kernel) (pa_cons (pv 0) (pa_cons (pe_bltn (v := .ty "str") (by rfl) B.str_ PyProof.Rows.boot_str rfl) pa_nil))) (pe_and (pe_chain op_zle op_zle pe_int (pe_callB (cr_len (K := c.K)) (by rfl) B.len_ PySem.boot_len (pa_cons (pv 0) pa_nil)) (pe_glob (v := .int 8) (by rfl) C_MOST_IN_NAME ⟨_, rfl⟩)) (pe_one (pe_callB (cr_allZ (K := c.K) rfl) (by rfl) B.all_ (by decide +kernel) (pa_cons (pe_lc (own := [("sign", 1)]) (g := gName 1) (tt := tYes) rfl nd (pi_str (pv 0)) (blkOk_by (N := ["thing", "sign"]) (sc := defScope s_is_name) (by decide +kernel)) (fun _ _ _ _ _ => pg_name (i := 1) nd rfl (Or.inl rfl)) (fun _ _ _ _ _ => pts_nil) (fun _ _ _ _ _ => (pe_cmpR op_zinS (pv 1) (pe_glob (v := .str "abcdefghijklmnopqrstuvwxyz") (by rfl) C_SIGNS ⟨_, rfl⟩) rfl))) pa_nil))))))), body_run ok r k ?_⟩
  obtain ⟨-, d, rfl, hf, hP⟩ := hF
  walk_at "dl"
  refine ite_b (fun hb => ?_) (fun hb => ?_)
  · obtain ⟨x, rfl⟩ := str_of hb
    have hz : x.length ≤ sizeLine := le_line (fit_str.mp hf).1
    walk_at "dl"
    refine ite_b (fun h1 => ?_) (fun h1 => ?_)
    · walk_at "dl"
      refine ite_b (fun h2 => ?_) (fun h2 => ?_)
      · walk_at "dl"
        refine ⟨by simp, (fit_str.mp hf).1, fun n => decide (n ∈ lows.cps.toList), fun n hn => ?_, fin hP (by simp only [isName, h1, h2, Bool.true_and])⟩
        walk_at "dl"
        exact ⟨rfl, rfl⟩
      · exact fin hP (by simp only [isName, h1, h2, Bool.true_and, Bool.false_and])
    · walk_at "dl"
      exact fin hP (by simp only [isName, h1, Bool.false_and])
  · exact fin hP (by cases d <;> first | rfl | cases hb)
theorem ok_is_text {f : Addr} {fd : FuncData} (F : Fun K "is_text" "is_text" s_is_text f fd)   (B : Blt mg) {t_MOST_IN_TEXT : Tok} (C_MOST_IN_TEXT : mg "MOST_IN_TEXT" = some (.int 96 t_MOST_IN_TEXT))  : FnOk P w K mg base CX0 1 f fd ["thing"] (SpF K (FJ fit isText)) := by
  refine F.ok sc_is_text (fun vs H Q E h => ?_) (fun cdv A outer s H vs Q E hr h => ?_)
  · exact lenF h fun c g es P h => h.1
  obtain ⟨c, I, g, es, P, rfl, ok, r, hF, k⟩ := h
  have nd := sc_is_text.nd
  have hu := hr.units
  have hu1 := hu_of hr
  refine ⟨_, (pss_one (L2.ps_ret (pe_and (pe_callB (cr_isi (K := c.K)) (by rfl) B.isinstance_ (by decide +kernel) (pa_cons (pv 0) (pa_cons (pe_bltn (v := .ty "str") (by rfl) B.str_ PyProof.Rows.boot_str rfl) pa_nil))) (pe_and (pe_cmpR op_zle (pe_callB (cr_len (K := c.K)) (by rfl) B.len_ PySem.boot_len (pa_cons (pv 0) pa_nil)) (pe_glob (v := .int 96) (by rfl) C_MOST_IN_TEXT ⟨_, rfl⟩) (nomark _)) (pe_one (pe_callB (cr_allZ (K := c.K) rfl) (by rfl) B.all_ (by decide +kernel) (pa_cons (pe_lc (own := [("sign", 1)]) (g := gName 1) (tt := tYes) rfl nd (pi_str (pv 0)) (blkOk_by (N := ["thing", "sign"]) (sc := defScope s_is_text) (by decide +kernel)) (fun _ _ _ _ _ => pg_name (i := 1) nd rfl (Or.inl rfl)) (fun _ _ _ _ _ => pts_nil) (fun _ _ _ _ _ => (pe_chain op_zle op_zle pe_str (pv 1) pe_str))) pa_nil))))))), body_run ok r k ?_⟩
  obtain ⟨-, d, rfl, hf, hP⟩ := hF
  walk_at "dl"
  refine ite_b (fun hb => ?_) (fun hb => ?_)
  · obtain ⟨x, rfl⟩ := str_of hb
    have hz : x.length ≤ sizeLine := le_line (fit_str.mp hf).1
    walk_at "dl"
    refine ite_b (fun h1 => ?_) (fun h1 => ?_)
    · walk_at "dl"
      refine ⟨by simp, (fit_str.mp hf).1, isSign, fun n hn => ?_, fin hP (by simp only [isText, h1, Bool.true_and])⟩
      walk_at "dl"
      rw [sign_lo]
      refine ite_b (fun h2 => ?_) (fun h2 => ?_)
      · walk_at "dl"
        refine ⟨?_, rfl⟩
        rw [sign_hi]
        simp only [isSign, h2, Bool.true_and]
      · refine ⟨?_, rfl⟩
        simp only [isSign, h2, Bool.false_and]
    · exact fin hP (by simp only [isText, h1, Bool.false_and])
  · exact fin hP (by cases d <;> first | rfl | cases hb)
theorem ok_has_word {f : Addr} {fd : FuncData} (F : Fun K "has_word" "has_word" s_has_word f fd)   (B : Blt mg)  : FnOk P w K mg base CX0 1 f fd ["thing"] (SpF K (FJ any' isWord)) := by
  refine F.ok sc_has_word (fun vs H Q E h => ?_) (fun cdv A outer s H vs Q E hr h => ?_)
  · exact lenF h fun c g es P h => h.1
  obtain ⟨c, I, g, es, P, rfl, ok, r, hF, k⟩ := h
  have nd := sc_has_word.nd
  have hu := hr.units
  have hu1 := hu_of hr
  refine ⟨_, (pss_one (L2.ps_ret (pe_and (pe_callB (cr_isi (K := c.K)) (by rfl) B.isinstance_ (by decide +kernel) (pa_cons (pv 0) (pa_cons (pe_bltn (v := .ty "tuple") (by rfl) B.tuple_ PyProof.Rows.boot_tuple rfl) pa_nil))) (pe_and (pe_cmpR op_gt (pe_callB (cr_len (K := c.K)) (by rfl) B.len_ PySem.boot_len (pa_cons (pv 0) pa_nil)) pe_int (nomark _)) (pe_one (pe_callB (cr_isi (K := c.K)) (by rfl) B.isinstance_ (by decide +kernel) (pa_cons (pe_ix (ix_z (K := c.K) (w := w)) (pv 0) pe_int (fun _ _ => rfl)) (pa_cons (pe_bltn (v := .ty "str") (by rfl) B.str_ PyProof.Rows.boot_str rfl) pa_nil)))))))), body_run ok r k ?_⟩
  obtain ⟨-, d, rfl, -, hP⟩ := hF
  walk_at "dl"
  refine ite_b (fun hb => ?_) (fun hb => ?_)
  · obtain ⟨x, rfl⟩ := tup_of hb
    walk_at "dl"
    cases x with
    | nil => walk_at "dl"; exact hP
    | cons y ys =>
      refine ite_t (decide_eq_true (by simp only [List.length_cons]; omega)) ?_
      walk_at "dl"
      exact fin hP (by cases y <;> rfl)
  · exact fin hP (by cases d <;> first | rfl | cases hb)
end Pr
set_option Elab.async false
set_option linter.all false
set_option autoImplicit false
set_option maxRecDepth 100000
set_option maxHeartbeats 4000000
set_option pp.maxSteps 500
namespace Pr
open PySem PySem.Spec PyProof.Rows L2 Dl
local macro_rules | `(tactic| walk_at "dl1") => `(tactic| first
  | ((with_reducible show PSt _ _ _ _ _ _); first
    | (with_reducible refine ps_seq ?_)
    | (with_reducible refine ps_ret ?_)
    | (with_reducible refine ps_if ?_)
    | (with_reducible refine ps_set ?_)
    | (with_reducible refine ps_next ?_)
    | (with_reducible refine ps_drop ?_))
  | ((with_reducible show PV _ _ _ _ _); first
    | ((with_reducible refine' pv_var ?k1 ?_); (case k1 => rfl))
    | (with_reducible refine pv_int ?_)
    | (with_reducible refine pv_str ?_)
    | (with_reducible refine pv_bl ?_)
    | (with_reducible refine pv_non ?_)
    | (with_reducible refine pv_and ?_)
    | (with_reducible refine pv_or ?_)
    | (with_reducible refine pv_not ?_)
    | (with_reducible refine pv_if ?_)
    | (with_reducible refine pv_op ?_)
    | (with_reducible refine pv_un ?_)
    | (with_reducible refine pv_chain ?_)
    | (with_reducible refine pv_tup ?_)
    | (with_reducible refine pv_lst2 ?_)
    | (with_reducible refine pv_call ?_)
    | (with_reducible refine pv_allT ?_)
    | (with_reducible refine pv_allS ?_)
    | (with_reducible refine pv_allR ?_)
    | (with_reducible refine pv_lcT ?_)
    | (with_reducible refine pv_lcL ?_)
    | (with_reducible refine pv_lcTF ?_)
    | (with_reducible refine pv_listRg2 ?_)
    | (with_reducible refine pv_cb ?_)
    | (with_reducible refine pv_sl ?_)
    | ((with_reducible refine' pv_const ?k1 ?_); (case k1 => assumption))
    | ((with_reducible refine' pv_constR ?k1 ?_); (case k1 => assumption))
    | (with_reducible refine pv_raw ?_))
  | ((with_reducible show O2 _ _ _ _ _ _); first
    | (with_reducible refine o_add ?_)
    | (with_reducible refine o_ii ?_)
    | (with_reducible refine o_ib ?_)
    | (with_reducible refine o_le ?_)
    | (with_reducible refine o_lt ?_)
    | (with_reducible refine o_eqI ?_)
    | (with_reducible refine o_neI ?_)
    | (with_reducible refine o_eqS ?_)
    | (with_reducible refine o_eqB ?_)
    | (with_reducible refine o_neB ?_)
    | (with_reducible refine o_leS ?_)
    | (with_reducible refine o_inS ?_)
    | ((with_reducible refine' o_isN ?k1 ?_); (case k1 => rfl))
    | ((with_reducible refine' o_notN ?k1 ?_); (case k1 => rfl))
    | (with_reducible refine o_isntB ?_)
    | ((with_reducible refine' o_ixT ?k1 ?_); (case k1 => first | exact at0 | exact at1 | exact atI_nat (j := 2) rfl | exact atI_nat (j := 3) rfl | exact atI_nat (j := 4) rfl | exact atI_nat (j := 5) rfl | exact atI_nat (j := 6) rfl | rfl)))
  | ((with_reducible show OC _ _ _ _ _); first
    | (with_reducible refine oc_isi (isT_int _) ?_)
    | (with_reducible refine oc_isi (isT_bool _) ?_)
    | (with_reducible refine oc_isi (isT_str _) ?_)
    | (with_reducible refine oc_isi (isT_tuple _) ?_)
    | (with_reducible refine oc_isi (isT_list _) ?_)
    | (with_reducible refine oc_lenT ?_)
    | (with_reducible refine oc_lenL ?_)
    | (with_reducible refine oc_lenR ?_)
    | ((with_reducible refine oc_lenS ?k1 ?_); (case k1 => assumption)))
  | ((with_reducible show PAs _ _ _ _ _); first
    | (with_reducible refine pas_nil ?_)
    | (with_reducible refine pas_cons ?_))
  | ((with_reducible show PB _ _ _ _ _); first
    | (with_reducible refine pb_test' ?_)
    | (with_reducible refine pb_B ?_)
    | (with_reducible refine pb_and ?_)
    | (with_reducible refine pb_or ?_)
    | (with_reducible refine pb_not ?_))
  | ((with_reducible show PPart _ _ _ _ _); first
    | (with_reducible refine pp_none ?_)
    | (with_reducible refine pp_some ?_))
  | ((with_reducible show OSl _ _ _ _ _ _ _); first
    | (with_reducible refine os_tup ?_))
  | ((with_reducible refine ite_t ?k1 ?_); (case k1 => rfl))
  | ((with_reducible refine ite_f ?k1 ?_); (case k1 => rfl))
  | ((with_reducible refine use_FJ ?k1 ?_); (case k1 => first | rfl | assumption))
  | (with_reducible refine use_is_between ?_)
  | (with_reducible refine use_is_tuple_of ?_)
  | (refine Or.inl (Exists.intro _ (And.intro rfl (And.intro (le_line (Nat.le_of_ble_eq_true rfl)) ?_))))
  | (refine Or.inr (Exists.intro _ (And.intro rfl (And.intro (le_line (Nat.le_of_ble_eq_true rfl)) ?_))))
  | (with_reducible refine Exists.intro _ (And.intro rfl ?_))
  | ((with_reducible refine And.intro ?k1 ?_); (case k1 => exact le_line (Nat.le_of_ble_eq_true rfl))))
local macro_rules | `(tactic| walk_at "dl") => `(tactic| repeat walk_at "dl1")
variable {P : Program} {w : World} {K : PySem.W.Frag} {mg : Str → Option Value} {base : Heap}
theorem ok_are_all {f : Addr} {fd : FuncData} (F : Fun K "are_all" "are_all" s_are_all f fd)  {k : Nat} {tab : Tab} (HS : ∀ f sp, judgeS K tab f = some sp → L2.Held P w K mg base k f sp) (B : Blt mg)  : FnOk P w K mg base CX0 (k+1) f fd ["things", "tests"] (SpF K (F_are_all tab)) := by
  refine F.ok sc_are_all (fun vs H Q E h => ?_) (fun cdv A outer s H vs Q E hr h => ?_)
  · exact lenF h fun c g es P h => h.1
  obtain ⟨c, I, g, es, P, rfl, ok, r, hF, k⟩ := h
  have nd := sc_are_all.nd
  have hu := hr.units
  have hu1 := hu_of hr
  refine ⟨_, (pss_one (L2.ps_ret (pe_and (pe_cmpR (op_zeq (K := c.K) hu) (pe_callB (cr_len (K := c.K)) (by rfl) B.len_ PySem.boot_len (pa_cons (pv 0) pa_nil)) (pe_callB (cr_len (K := c.K)) (by rfl) B.len_ PySem.boot_len (pa_cons (pv 1) pa_nil)) (nomark _)) (pe_one (pe_callB (cr_allZ (K := c.K) rfl) (by rfl) B.all_ (by decide +kernel) (pa_cons (pe_lc (own := [("test", 2), ("one", 3)])  (tt := tYes) rfl nd (pi_zipZ (K := c.K) (by rfl) B.zip_ (pa_cons (pv 1) (pa_cons (pv 0) pa_nil))) (blkOk_by (N := ["things", "tests", "test", "one"]) (sc := defScope s_are_all) (by decide +kernel)) (fun _ _ _ _ _ => (pg_tupZ (n := 2) (K := c.K) rfl (pgs_cons (pg_name (i := 2) nd rfl (by first | exact Or.inl rfl | exact Or.inr rfl)) (pgs_cons (pg_name (i := 3) nd rfl (by first | exact Or.inl rfl | exact Or.inr rfl)) pgs_nil)))) (fun _ _ _ _ _ => pts_nil) (fun _ _ _ _ _ => (pe_callA (i := 2) (S := judgeS c.K tab) HS (hr.mono (by first | decide | omega)) rfl (by first | exact Or.inl rfl | exact Or.inr (Or.inl rfl) | exact Or.inr (Or.inr rfl)) (pa_cons (pv 3) pa_nil)))) pa_nil)))))), body_run ok r k ?_⟩
  obtain ⟨-, ds, fs, ps, rfl, hj, hf, hP⟩ := hF
  have hl : fs.length = ps.length := paired_len hj
  walk_at "dl"
  refine ite_b (fun hb => ?_) (fun hb => ?_)
  · have hb' : ds.length = ps.length := by have := of_decide_eq_true hb; omega
    refine pv_one (pv_all (js := [2, 3]) (pit_zipRT ?_))
    walk_at "dl"
    refine ⟨fs, ds, rfl, by simp, lt_line (Nat.le_trans (Nat.min_le_right _ _) (fit_tup.mp hf).1), judgeAt ps ds, fun i hi => ?_, ?_⟩
    · have hi1 : i < fs.length := by omega
      have hi2 : i < ds.length := by omega
      have hi3 : i < ps.length := by omega
      obtain ⟨p, hp, a, ha, ht⟩ := judges_get hj (List.getElem?_eq_getElem hi1)
      rw [zipR_at (by rw [List.getElem?_map, List.getElem?_eq_getElem hi1]; rfl) (by rw [List.getElem?_map, List.getElem?_eq_getElem hi2]; rfl)]
      rw [ha]
      refine pv_callA (F := FJ fit p) rfl (by rw [judgeS, ht]; rfl) ?_
      walk_at "dl"
      refine use_FJ ((fit_tup.mp hf).2 _ (List.getElem_mem hi2)) ?_
      refine ⟨?_, rfl⟩
      rw [judgeAt, hp, List.getElem?_eq_getElem hi2]
    · rw [hl, allP_range hb']
      exact hP
  · exact fin hP (allP_ne (by intro e; rw [hl, e] at hb; simp at hb))
theorem ok_is_edit {f : Addr} {fd : FuncData} (F : Fun K "is_edit" "is_edit" s_is_edit f fd) {a_EDITS : Addr} (C_EDITS : mg "EDITS" = some (.ref a_EDITS)) {es_EDITS : Array DictEntry} {n_EDITS : Nat} (K_EDITS : KDict K w a_EDITS es_EDITS n_EDITS) {tab : Tab} (T : TabK K w tab a_EDITS editTests) {f_has_word : Addr} {fd_has_word : FuncData} {ps_has_word : List Str} (D_has_word : L2.Def P w K mg base 1 "has_word" f_has_word fd_has_word ps_has_word (SpF K (FJ any' isWord))) {f_are_all : Addr} {fd_are_all : FuncData} {ps_are_all : List Str} (D_are_all : L2.Def P w K mg base 4 "are_all" f_are_all fd_are_all ps_are_all (SpF K (F_are_all tab)))  : FnOk P w K mg base CX0 5 f fd ["thing"] (SpF K (FJ fit isEdit)) := by
  refine F.ok sc_is_edit (fun vs H Q E h => ?_) (fun cdv A outer s H vs Q E hr h => ?_)
  · exact lenF h fun c g es P h => h.1
  obtain ⟨c, I, g, es, P, rfl, ok, r, hF, k⟩ := h
  have nd := sc_is_edit.nd
  have hu := hr.units
  have hu1 := hu_of hr
  refine ⟨_, (pss_one (L2.ps_ret (pe_and (pe_call D_has_word.ok (hr.mono (by first | decide | omega)) rfl D_has_word.at_ D_has_word.kp D_has_word.bd .nil pass0 (pa_cons (pv 0) pa_nil)) (pe_and (pe_cmpR (op_inK (K := c.K) K_EDITS) (pe_ix (ix_z (K := c.K) (w := w)) (pv 0) pe_int (fun _ _ => rfl)) (pe_glob (v := .ref a_EDITS) (by rfl) C_EDITS rfl) rfl) (pe_one (pe_call D_are_all.ok (hr.mono (by first | decide | omega)) rfl D_are_all.at_ D_are_all.kp D_are_all.bd .nil pass0 (pa_cons (pe_slice (sl_z (K := c.K)) (pv 0) (po_some pe_int) po_none) (pa_cons (pe_ix (ix_z (K := c.K) (w := w)) (pe_glob (v := .ref a_EDITS) (by rfl) C_EDITS rfl) (pe_ix (ix_z (K := c.K) (w := w)) (pv 0) pe_int (fun _ _ => rfl)) (fun _ _ => rfl)) pa_nil)))))))), body_run ok r k ?_⟩
  obtain ⟨-, d, rfl, hf, hP⟩ := hF
  walk_at "dl"
  refine ite_b (fun hb => ?_) (fun hb => ?_)
  · obtain ⟨z, rr, rfl⟩ := word_of hb
    walk_at "dl"
    cases e : editTests z with
    | none =>
      refine o_inK (T.no z e) ?_
      walk_at "dl"
      exact fin hP (byWord_none e)
    | some ps =>
      obtain ⟨t, fs, h1, h2, h3, h4⟩ := T.yes z ps e
      refine o_inK h1 ?_
      walk_at "dl"
      refine o_ixDT h2 h3 ?_
      walk_at "dl"
      rw [cut_tail]
      exact ⟨rfl, rr, fs, ps, rfl, h4, fit_tail hf, fin hP (byWord_some e)⟩
  · exact fin hP (byWord_word hb)
theorem ok_is_content {f : Addr} {fd : FuncData} (F : Fun K "is_content" "is_content" s_is_content f fd)   {f_is_text : Addr} {fd_is_text : FuncData} {ps_is_text : List Str} (D_is_text : L2.Def P w K mg base 1 "is_text" f_is_text fd_is_text ps_is_text (SpF K (FJ fit isText)))  : FnOk P w K mg base CX0 2 f fd ["thing"] (SpF K (FJ fit isContent)) := by
  refine F.ok sc_is_content (fun vs H Q E h => ?_) (fun cdv A outer s H vs Q E hr h => ?_)
  · exact lenF h fun c g es P h => h.1
  obtain ⟨c, I, g, es, P, rfl, ok, r, hF, k⟩ := h
  have nd := sc_is_content.nd
  have hu := hr.units
  have hu1 := hu_of hr
  refine ⟨_, (pss_one (L2.ps_ret (pe_or (pe_cmpR op_isN (pv 0) pe_non (nomark _)) (pe_one (pe_call D_is_text.ok (hr.mono (by first | decide | omega)) rfl D_is_text.at_ D_is_text.kp D_is_text.bd .nil pass0 (pa_cons (pv 0) pa_nil)))))), body_run ok r k ?_⟩
  obtain ⟨-, d, rfl, hf, hP⟩ := hF
  cases d <;> walk_at "dl" <;> exact hP
end Pr
set_option Elab.async false
set_option linter.all false
set_option autoImplicit false
set_option maxRecDepth 100000
set_option maxHeartbeats 4000000
set_option pp.maxSteps 500
namespace Pr
open PySem PySem.Spec PyProof.Rows L2 Dl
abbrev s__law_mixed : Stmt := topS 35
theorem sc__law_mixed : FnScope ["_law_number_here"] ["_law_number_here"] (defScope s__law_mixed) := ⟨rfl, rfl, rfl, by decide +kernel, rfl, by decide +kernel, by decide +kernel⟩
abbrev s__law_well : Stmt := topS 36
theorem sc__law_well : FnScope ["_law_script", "_law_cell"] ["_law_script"] (defScope s__law_well) := ⟨rfl, rfl, rfl, by decide +kernel, rfl, by decide +kernel, by decide +kernel⟩
abbrev s__law_filled : Stmt := topS 37
theorem sc__law_filled : FnScope ["_law_well_here", "_law_cell"] ["_law_well_here"] (defScope s__law_filled) := ⟨rfl, rfl, rfl, by decide +kernel, rfl, by decide +kernel, by decide +kernel⟩
abbrev s__law_draw : Stmt := topS 38
theorem sc__law_draw : FnScope ["_law_well_here", "_law_many", "_law_told_here"] ["_law_well_here", "_law_many"] (defScope s__law_draw) := ⟨rfl, rfl, rfl, by decide +kernel, rfl, by decide +kernel, by decide +kernel⟩
abbrev s__law_number : Stmt := topS 39
theorem sc__law_number : FnScope ["_law_well_here", "_law_kind_here"] ["_law_well_here"] (defScope s__law_number) := ⟨rfl, rfl, rfl, by decide +kernel, rfl, by decide +kernel, by decide +kernel⟩
abbrev s__law_signs : Stmt := topS 40
theorem sc__law_signs : FnScope ["_law_signs_here"] [] (defScope s__law_signs) := ⟨rfl, rfl, rfl, by decide +kernel, rfl, by decide +kernel, by decide +kernel⟩
abbrev s__law_string : Stmt := topS 41
theorem sc__law_string : FnScope ["_law_well_here", "_law_many", "_law_signs_here", "_law_k"] ["_law_well_here", "_law_many"] (defScope s__law_string) := ⟨rfl, rfl, rfl, by decide +kernel, rfl, by decide +kernel, by decide +kernel⟩
abbrev s__law_name : Stmt := topS 42
theorem sc__law_name : FnScope ["_law_well_here", "_law_many", "_law_k"] ["_law_well_here"] (defScope s__law_name) := ⟨rfl, rfl, rfl, by decide +kernel, rfl, by decide +kernel, by decide +kernel⟩
abbrev s__law_any : Stmt := topS 44
theorem sc__law_any : FnScope ["_law_well_here", "_law_deep", "_law_kind_here", "_law_items", "_law_k"] ["_law_well_here", "_law_deep"] (defScope s__law_any) := ⟨rfl, rfl, rfl, by decide +kernel, rfl, by decide +kernel, by decide +kernel⟩
abbrev s__law_nodes : Stmt := topS 45
theorem sc__law_nodes : FnScope ["_law_thing", "_law_item"] ["_law_thing"] (defScope s__law_nodes) := ⟨rfl, rfl, rfl, by decide +kernel, rfl, by decide +kernel, by decide +kernel⟩
abbrev s__law_changed : Stmt := topS 46
theorem sc__law_changed : FnScope ["_law_thing", "_law_well_here", "_law_kind_here", "_law_turned"] ["_law_thing", "_law_well_here"] (defScope s__law_changed) := ⟨rfl, rfl, rfl, by decide +kernel, rfl, by decide +kernel, by decide +kernel⟩
abbrev s__law_spoilt : Stmt := topS 47
theorem sc__law_spoilt : FnScope ["_law_thing", "_law_at", "_law_well_here", "_law_k", "_law_size"] ["_law_thing", "_law_at", "_law_well_here"] (defScope s__law_spoilt) := ⟨rfl, rfl, rfl, by decide +kernel, rfl, by decide +kernel, by decide +kernel⟩
abbrev s__law_text : Stmt := topS 48
theorem sc__law_text : FnScope ["_law_well_here", "_law_kind_here"] ["_law_well_here"] (defScope s__law_text) := ⟨rfl, rfl, rfl, by decide +kernel, rfl, by decide +kernel, by decide +kernel⟩
abbrev s__law_content : Stmt := topS 49
theorem sc__law_content : FnScope ["_law_well_here"] ["_law_well_here"] (defScope s__law_content) := ⟨rfl, rfl, rfl, by decide +kernel, rfl, by decide +kernel, by decide +kernel⟩
abbrev s__law_client : Stmt := topS 50
theorem sc__law_client : FnScope ["_law_well_here"] ["_law_well_here"] (defScope s__law_client) := ⟨rfl, rfl, rfl, by decide +kernel, rfl, by decide +kernel, by decide +kernel⟩
abbrev s__law_edit : Stmt := topS 55
theorem sc__law_edit : FnScope ["_law_well_here", "_law_kind_here"] ["_law_well_here"] (defScope s__law_edit) := ⟨rfl, rfl, rfl, by decide +kernel, rfl, by decide +kernel, by decide +kernel⟩
abbrev s__law_count : Stmt := topS 56
theorem sc__law_count : FnScope ["_law_thing"] ["_law_thing"] (defScope s__law_count) := ⟨rfl, rfl, rfl, by decide +kernel, rfl, by decide +kernel, by decide +kernel⟩
abbrev s__law_long : Stmt := topS 57
theorem sc__law_long : FnScope ["_law_thing", "_law_many"] ["_law_thing", "_law_many"] (defScope s__law_long) := ⟨rfl, rfl, rfl, by decide +kernel, rfl, by decide +kernel, by decide +kernel⟩
abbrev s__law_name_fits : Stmt := topS 58
theorem sc__law_name_fits : FnScope ["_law_thing", "_law_sign"] ["_law_thing"] (defScope s__law_name_fits) := ⟨rfl, rfl, rfl, by decide +kernel, rfl, by decide +kernel, by decide +kernel⟩
abbrev s__law_text_fits : Stmt := topS 59
theorem sc__law_text_fits : FnScope ["_law_thing", "_law_sign"] ["_law_thing"] (defScope s__law_text_fits) := ⟨rfl, rfl, rfl, by decide +kernel, rfl, by decide +kernel, by decide +kernel⟩
abbrev s__law_client_fits : Stmt := topS 60
theorem sc__law_client_fits : FnScope ["_law_thing"] ["_law_thing"] (defScope s__law_client_fits) := ⟨rfl, rfl, rfl, by decide +kernel, rfl, by decide +kernel, by decide +kernel⟩
abbrev s__law_pair_fits : Stmt := topS 61
theorem sc__law_pair_fits : FnScope ["_law_thing"] ["_law_thing"] (defScope s__law_pair_fits) := ⟨rfl, rfl, rfl, by decide +kernel, rfl, by decide +kernel, by decide +kernel⟩
abbrev s__law_edit_fits : Stmt := topS 64
theorem sc__law_edit_fits : FnScope ["_law_thing", "_law_word", "_law_rest"] ["_law_thing"] (defScope s__law_edit_fits) := ⟨rfl, rfl, rfl, by decide +kernel, rfl, by decide +kernel, by decide +kernel⟩
abbrev s__law_alike : Stmt := topS 65
theorem sc__law_alike : FnScope ["_law_told_here", "_law_due_here", "_law_k"] ["_law_told_here", "_law_due_here"] (defScope s__law_alike) := ⟨rfl, rfl, rfl, by decide +kernel, rfl, by decide +kernel, by decide +kernel⟩
abbrev s__law_plain : Stmt := topS 66
theorem sc__law_plain : FnScope ["_law_well_here", "_law_text_here", "_law_size", "_law_kind_here", "_law_at", "_law_gone", "_law_room", "_law_more"] ["_law_well_here", "_law_text_here"] (defScope s__law_plain) := ⟨rfl, rfl, rfl, by decide +kernel, rfl, by decide +kernel, by decide +kernel⟩
abbrev s__law_done : Stmt := topS 67
theorem sc__law_done : FnScope ["_law_text_here", "_law_edit_here", "_law_signs_here", "_law_sign", "_law_k"] ["_law_text_here", "_law_edit_here"] (defScope s__law_done) := ⟨rfl, rfl, rfl, by decide +kernel, rfl, by decide +kernel, by decide +kernel⟩
abbrev s__law_told : Stmt := topS 68
theorem sc__law_told : FnScope ["_law_text_here", "_law_edit_here", "_law_told_here"] ["_law_text_here", "_law_edit_here"] (defScope s__law_told) := ⟨rfl, rfl, rfl, by decide +kernel, rfl, by decide +kernel, by decide +kernel⟩
abbrev s__law_is_back : Stmt := topS 69
theorem sc__law_is_back : FnScope ["_law_text_here", "_law_edit_here", "_law_told_here", "_law_gone", "_law_half"] ["_law_text_here", "_law_edit_here", "_law_told_here"] (defScope s__law_is_back) := ⟨rfl, rfl, rfl, by decide +kernel, rfl, by decide +kernel, by decide +kernel⟩
abbrev s__law_odd_text : Stmt := topS 70
theorem sc__law_odd_text : FnScope ["_law_well_here", "_law_text_here"] ["_law_well_here", "_law_text_here"] (defScope s__law_odd_text) := ⟨rfl, rfl, rfl, by decide +kernel, rfl, by decide +kernel, by decide +kernel⟩
abbrev s__law_odd_edit : Stmt := topS 71
theorem sc__law_odd_edit : FnScope ["_law_well_here", "_law_edit_here", "_law_kind_here"] ["_law_well_here", "_law_edit_here"] (defScope s__law_odd_edit) := ⟨rfl, rfl, rfl, by decide +kernel, rfl, by decide +kernel, by decide +kernel⟩
abbrev s__law_due : Stmt := topS 72
theorem sc__law_due : FnScope ["_law_text_here", "_law_edit_here"] ["_law_text_here", "_law_edit_here"] (defScope s__law_due) := ⟨rfl, rfl, rfl, by decide +kernel, rfl, by decide +kernel, by decide +kernel⟩
abbrev s_law : Stmt := topS 73
theorem sc_law : FnScope ["_law_script", "_law_well_here", "_law_text_here", "_law_turn", "_law_edit_here", "_law_told_here", "_law_odd", "_law_other"] ["_law_script"] (defScope s_law) := ⟨rfl, rfl, rfl, by decide +kernel, rfl, by decide +kernel, by decide +kernel⟩
local macro_rules | `(tactic| walk_at "ds1") => `(tactic| first
  | ((with_reducible show PSt _ _ _ _ _ _); first
    | (with_reducible refine ps_seq ?_)
    | (with_reducible refine ps_ret ?_)
    | (with_reducible refine ps_if ?_)
    | (with_reducible refine ps_set ?_)
    | (with_reducible refine ps_next ?_)
    | (with_reducible refine ps_drop ?_)
    | (with_reducible refine ps_setix ?_))
  | ((with_reducible show PV _ _ _ _ _); first
    | ((with_reducible refine' pv_var ?k1 ?_); (case k1 => rfl))
    | (with_reducible refine pv_int ?_)
    | (with_reducible refine pv_str ?_)
    | (with_reducible refine pv_bl ?_)
    | (with_reducible refine pv_non ?_)
    | (with_reducible refine pv_and ?_)
    | (with_reducible refine pv_or ?_)
    | (with_reducible refine pv_not ?_)
    | (with_reducible refine pv_if ?_)
    | (with_reducible refine pv_op ?_)
    | (with_reducible refine pv_un ?_)
    | (with_reducible refine pv_chain ?_)
    | (with_reducible refine pv_tup ?_)
    | (with_reducible refine pv_call ?_)
    | (with_reducible refine pv_allT ?_)
    | (with_reducible refine pv_allS ?_)
    | (with_reducible refine pv_allR ?_)
    | (with_reducible refine pv_lcT ?_)
    | (with_reducible refine pv_lcL ?_)
    | (with_reducible refine pv_lcTF ?_)
    | (with_reducible refine pv_listRg2 ?_)
    | (with_reducible refine pv_cb ?_)
    | (with_reducible refine pv_sl ?_)
    | (with_reducible refine pv_dget ?_)
    | ((with_reducible refine' pv_const ?k1 ?_); (case k1 => assumption))
    | (with_reducible refine pv_raw ?_))
  | ((with_reducible show O2 _ _ _ _ _ _); first
    | (with_reducible refine o_add ?_)
    | ((with_reducible refine' o_iic ?k1 ?_); (case k1 => first | (show (0 : Int) < _; first | decide | assumption | omega) | exact Or.inr ⟨by decide, by decide⟩ | exact Or.inl ⟨by decide, by decide⟩))
    | (with_reducible refine o_ii ?_)
    | (with_reducible refine o_ib ?_)
    | (with_reducible refine o_le ?_)
    | (with_reducible refine o_lt ?_)
    | (with_reducible refine o_eqI ?_)
    | (with_reducible refine o_neI ?_)
    | (with_reducible refine o_eqS ?_)
    | (with_reducible refine o_eqB ?_)
    | (with_reducible refine o_neB ?_)
    | (with_reducible refine o_leS ?_)
    | (with_reducible refine o_inS ?_)
    | ((with_reducible refine' o_isN ?k1 ?_); (case k1 => rfl))
    | ((with_reducible refine' o_notN ?k1 ?_); (case k1 => rfl))
    | (with_reducible refine o_isntB ?_)
    | ((with_reducible refine' o_ixM ?k1 ?k2 ?_); (case k1 => first | assumption | exact put_same); (case k2 => first | exact at0 | exact at1 | exact atI_nat (j := 2) rfl | exact atI_nat (j := 3) rfl | exact atI_nat (j := 4) rfl))
    | ((with_reducible refine' o_ixT ?k1 ?_); (case k1 => first | exact at0 | exact at1 | exact atI_nat (j := 2) rfl | exact atI_nat (j := 3) rfl | exact atI_nat (j := 4) rfl | exact atI_nat (j := 5) rfl | exact atI_nat (j := 6) rfl | rfl)))
  | ((with_reducible show OC _ _ _ _ _); first
    | (with_reducible refine oc_isi (isT_int _) ?_)
    | (with_reducible refine oc_isi (isT_bool _) ?_)
    | (with_reducible refine oc_isi (isT_str _) ?_)
    | (with_reducible refine oc_isi (isT_tuple _) ?_)
    | (with_reducible refine oc_isi (isT_list _) ?_)
    | (with_reducible refine oc_lenT ?_)
    | (with_reducible refine oc_lenL ?_)
    | (with_reducible refine oc_lenR ?_)
    | (with_reducible refine oc_int ?_)
    | (with_reducible refine oc_abs ?_)
    | ((with_reducible refine oc_lenS ?k1 ?_); (case k1 => assumption)))
  | ((with_reducible show PAs _ _ _ _ _); first
    | (with_reducible refine pas_nil ?_)
    | (with_reducible refine pas_cons ?_))
  | ((with_reducible show PB _ _ _ _ _); first
    | (with_reducible refine pb_test' ?_)
    | (with_reducible refine pb_B ?_)
    | (with_reducible refine pb_and ?_)
    | (with_reducible refine pb_or ?_)
    | (with_reducible refine pb_not ?_))
  | ((with_reducible show PPart _ _ _ _ _); first
    | (with_reducible refine pp_none ?_)
    | (with_reducible refine pp_some ?_))
  | ((with_reducible show O1 _ _ _ _ _); first
    | (with_reducible refine o_neg ?_))
  | ((with_reducible show OSl _ _ _ _ _ _ _); first
    | (with_reducible refine os_lst ?_)
    | (with_reducible refine os_tup ?_))
  | ((with_reducible refine ite_t ?k1 ?_); (case k1 => rfl))
  | ((with_reducible refine ite_f ?k1 ?_); (case k1 => rfl))
  | ((with_reducible refine use_FJ ?k1 ?_); (case k1 => first | rfl | assumption))
  | (with_reducible refine use_is_between ?_)
  | (with_reducible refine use_is_tuple_of ?_)
  | (refine Or.inl (Exists.intro _ (And.intro rfl (And.intro (le_line (Nat.le_of_ble_eq_true rfl)) ?_))))
  | (refine Or.inr (Exists.intro _ (And.intro rfl (And.intro (le_line (Nat.le_of_ble_eq_true rfl)) ?_))))
  | (with_reducible refine Exists.intro _ (And.intro rfl ?_))
  | ((with_reducible refine And.intro ?k1 ?_); (case k1 => exact le_line (Nat.le_of_ble_eq_true rfl))))
local macro_rules | `(tactic| walk_at "ds") => `(tactic| repeat walk_at "ds1")
variable {P : Program} {w : World} {K : PySem.W.Frag} {mg : Str → Option Value} {base : Heap}
theorem ok__law_well {f : Addr} {fd : FuncData} (F : Fun K "_law_well" "_law_well" s__law_well f fd)   (B : Blt mg)  : FnOk P w K mg base CX0 1 f fd ["_law_script"] (SpF K FW_well) := by
  refine F.ok sc__law_well (fun vs H Q E h => ?_) (fun cdv A outer s H vs Q E hr h => ?_)
  · exact lenF h fun c g es P h => h.1
  obtain ⟨I, g, es, P, ok, r, hF, k⟩ := spFL h
  have nd := sc__law_well.nd
  have hu := hr.units
  have hu1 := hu_of hr
  refine ⟨_, (pss_one (L2.ps_ret (pe_lst (pa_cons (pe_lc (own := [("_law_cell", 1)]) (g := gName 1) (tt := tYes) rfl nd (pi_lstZ (K := (sC K).K) (pe_slice (sl_z (K := (sC K).K)) (pv 0) po_none (po_some pe_int))) (blkOk_by (N := ["_law_script", "_law_cell"]) (sc := defScope s__law_well) (by decide +kernel)) (fun _ _ _ _ _ => pg_name (i := 1) nd rfl (Or.inl rfl)) (fun _ _ _ _ _ => pts_nil) (fun _ _ _ _ _ => (pe_callTy cr_int (by rfl) B.int_ (by decide +kernel) (pa_cons (pv 1) pa_nil)))) (pa_cons pe_int (pa_cons pe_int (pa_cons pe_int pa_nil))))))), body_run ok r k ?_⟩
  obtain ⟨ns, rfl, hl, hP⟩ := hF
  refine Dl.ps_ret (pv_lstM ?_)
  refine pas_cons (pv_lcL ?_)
  walk_at "ds"
  have e : cutD (ns.map PyData.int) none (some 63) = ns.map PyData.int := by
    rw [show (63 : Int) = ((63 : Nat) : Int) from rfl, cut_take, List.take_of_length_le (by rw [List.length_map]; exact hl)]
  rw [e]
  refine ⟨by simp, by rw [List.length_map]; omega, fun d => d, fun x hx => ?_, ?_⟩
  · obtain ⟨i, _, rfl⟩ := List.mem_map.mp hx
    walk_at "ds"
    exact ⟨rfl, rfl⟩
  · rw [List.map_id']
    walk_at "ds"
    exact fun q hq => hP q _ hq ⟨_, _, _, _, put_same, Int.le_refl 0, Int.le_refl 0⟩ Kept.put
theorem ok__law_mixed {f : Addr} {fd : FuncData} (F : Fun K "_law_mixed" "_law_mixed" s__law_mixed f fd)   (B : Blt mg)  : FnOk P w K mg base CX0 1 f fd ["_law_number_here"] (SpF K FW_mixed) := by
  refine F.ok sc__law_mixed (fun vs H Q E h => ?_) (fun cdv A outer s H vs Q E hr h => ?_)
  · exact lenF h fun c g es P h => h.1
  obtain ⟨I, g, es, P, ok, r, hF, k⟩ := spFL h
  have nd := sc__law_mixed.nd
  have hu := hr.units
  have hu1 := hu_of hr
  refine ⟨_, (pss_cons (L2.ps_set (i := 0) nd rfl (by first | exact Or.inl rfl | exact Or.inr rfl | exact Or.inr (Or.inl rfl)) (pe_op op_mod (pe_callTy cr_int (by rfl) B.int_ (by decide +kernel) (pa_cons (pe_op (op_zadd (K := (sC K).K)) (pe_op op_mul (pv 0) pe_int) pe_int) pa_nil)) pe_int))
      (pss_cons (L2.ps_set (i := 0) nd rfl (by first | exact Or.inl rfl | exact Or.inr rfl | exact Or.inr (Or.inl rfl)) (pe_op op_mod (pe_callTy cr_int (by rfl) B.int_ (by decide +kernel) (pa_cons (pe_op (op_zadd (K := (sC K).K)) (pe_op op_mul (pv 0) (pe_op (op_zadd (K := (sC K).K)) (pe_op op_fdiv (pv 0) pe_int) pe_int)) pe_int) pa_nil)) pe_int))
      (pss_one (L2.ps_ret (pe_op (op_zadd (K := (sC K).K)) (pe_op op_mul (pv 0) pe_int) (pe_op op_mod (pe_callTy cr_int (by rfl) B.int_ (by decide +kernel) (pa_cons (pe_op (op_zadd (K := (sC K).K)) (pe_op op_mul (pv 0) (pe_op (op_zadd (K := (sC K).K)) (pe_op op_fdiv (pv 0) pe_int) pe_int)) pe_int) pa_nil)) pe_int)))))), body_run ok r k ?_⟩
  obtain ⟨i, rfl, hP⟩ := hF
  walk_at "ds"
  have b1 := Int.emod_nonneg (i * 48271 + 11) (b := 2147483647) (by decide)
  have b2 := Int.emod_lt_of_pos (i * 48271 + 11) (b := 2147483647) (by decide)
  generalize (i * 48271 + 11) % 2147483647 = N at b1 b2 ⊢
  refine o_iic ⟨by decide, by decide⟩ ?_
  walk_at "ds"
  refine o_iic (.inl ⟨by omega, by omega⟩) ?_
  walk_at "ds"
  have b3 := Int.emod_nonneg (N * (N / 1009 + 69621) + 7919) (b := 2147483647) (by decide)
  have b4 := Int.emod_lt_of_pos (N * (N / 1009 + 69621) + 7919) (b := 2147483647) (by decide)
  generalize (N * (N / 1009 + 69621) + 7919) % 2147483647 = M at b3 b4 ⊢
  refine o_iic ⟨by decide, by decide⟩ ?_
  walk_at "ds"
  refine o_iic (.inl ⟨by omega, by omega⟩) ?_
  walk_at "ds"
  exact hP _ (Int.add_nonneg (Int.mul_nonneg b3 (by decide)) (Int.emod_nonneg _ (by decide)))
theorem ok__law_filled {f : Addr} {fd : FuncData} (F : Fun K "_law_filled" "_law_filled" s__law_filled f fd)   (B : Blt mg) {f__law_mixed : Addr} {fd__law_mixed : FuncData} {ps__law_mixed : List Str} (D__law_mixed : L2.Def P w K mg base 1 "_law_mixed" f__law_mixed fd__law_mixed ps__law_mixed (SpF K FW_mixed))  : FnOk P w K mg base CX0 2 f fd ["_law_well_here"] (SpF K FW_filled) := by
  refine F.ok sc__law_filled (fun vs H Q E h => ?_) (fun cdv A outer s H vs Q E hr h => ?_)
  · exact lenF h fun c g es P h => h.1
  obtain ⟨I, g, es, P, ok, r, hF, k⟩ := spFL h
  have nd := sc__law_filled.nd
  have hu := hr.units
  have hu1 := hu_of hr
  refine ⟨_, (pss_cons (ps_asg (pe_op (op_zadd (K := (sC K).K)) (pe_ix (ix_z (K := (sC K).K) (w := w)) (pv 0) pe_int (fun _ _ => rfl)) pe_int) (pg_sub (pv 0) pe_int set_list))
      (pss_cons (L2.ps_if (pt_cmpR op_zle (pe_ix (ix_z (K := (sC K).K) (w := w)) (pv 0) pe_int (fun _ _ => rfl)) (pe_callB (cr_len (K := (sC K).K)) (by rfl) B.len_ PySem.boot_len (pa_cons (pe_ix (ix_z (K := (sC K).K) (w := w)) (pv 0) pe_int (fun _ _ => rfl)) pa_nil)) (nomark _)) (pss_cons (L2.ps_set (i := 1) nd rfl (by first | exact Or.inl rfl | exact Or.inr rfl | exact Or.inr (Or.inl rfl)) (pe_ix (ix_z (K := (sC K).K) (w := w)) (pe_ix (ix_z (K := (sC K).K) (w := w)) (pv 0) pe_int (fun _ _ => rfl)) (pe_op op_sub (pe_ix (ix_z (K := (sC K).K) (w := w)) (pv 0) pe_int (fun _ _ => rfl)) pe_int) (fun _ _ => rfl)))
      (pss_cons (ps_asg (pe_op op_mod (pe_callTy cr_int (by rfl) B.int_ (by decide +kernel) (pa_cons (pe_op (op_zadd (K := (sC K).K)) (pe_op (op_zadd (K := (sC K).K)) (pe_op op_mul (pe_ix (ix_z (K := (sC K).K) (w := w)) (pv 0) pe_int (fun _ _ => rfl)) pe_int) (pv 1)) pe_int) pa_nil)) pe_int) (pg_sub (pv 0) pe_int set_list))
      (pss_cons (L2.ps_if (pt_cmpR op_ge (pv 1) (pe_op op_pow pe_int pe_int) (nomark _)) (pss_one (L2.ps_ret (pv 1))) pss_nil)
      (pss_one (L2.ps_ret (pe_call D__law_mixed.ok (hr.mono (by first | decide | omega)) rfl D__law_mixed.at_ D__law_mixed.kp D__law_mixed.bd .nil pass0 (pa_cons (pe_op (op_zadd (K := (sC K).K)) (pv 1) (pe_op op_mul pe_int (pe_ix (ix_z (K := (sC K).K) (w := w)) (pv 0) pe_int (fun _ _ => rfl)))) pa_nil))))))) pss_nil)
      (pss_one (L2.ps_ret (pe_call D__law_mixed.ok (hr.mono (by first | decide | omega)) rfl D__law_mixed.at_ D__law_mixed.kp D__law_mixed.bd .nil pass0 (pa_cons (pe_op (op_zadd (K := (sC K).K)) (pe_ix (ix_z (K := (sC K).K) (w := w)) (pv 0) pe_int (fun _ _ => rfl)) (pe_op op_mul pe_int (pe_ix (ix_z (K := (sC K).K) (w := w)) (pv 0) pe_int (fun _ _ => rfl)))) pa_nil)))))), body_run ok r k ?_⟩
  obtain ⟨p, rfl, ⟨ns, i, a, m, hg, hi, ha⟩, hP⟩ := hF
  walk_at "ds"
  (refine' ⟨_, _, _, 1, rfl, rfl, ?h, ?i, ?_⟩); (case h => first | assumption | exact put_same); (case i => rfl)
  walk_at "ds"
  refine ite_b (fun hb => ?_) (fun hb => ?_)
  · have hb' := of_decide_eq_true hb
    obtain ⟨x, hx, hm⟩ := atI_some (xs := List.map PyData.int ns) (i := i + 1 - 1) (by omega) (by omega)
    obtain ⟨cell, hc, rfl⟩ := List.mem_map.mp hm
    walk_at "ds"
    refine o_ixL hx ?_
    walk_at "ds"
    (refine' ⟨_, _, _, 3, rfl, rfl, ?h, ?i, ?_⟩); (case h => first | assumption | exact put_same); (case i => rfl)
    walk_at "ds"
    refine o_iic ⟨by decide, by decide, by decide⟩ ?_
    walk_at "ds"
    have e18 : (10 : Int) ^ (18 : Int).toNat = 1000000000000000000 := by decide
    rw [e18]
    refine ite_b (fun hb3 => ?_) (fun hb3 => ?_)
    · have hb4 := of_decide_eq_true hb3
      walk_at "ds"
      exact hP _ _ ⟨_, _, _, _, put_same, by omega, ha⟩ (Kept.put.trans Kept.put) (by omega)
    · walk_at "ds"
      exact use_FL rfl ⟨_, rfl, fun r hr => hP _ r ⟨_, _, _, _, put_same, by omega, ha⟩ (Kept.put.trans Kept.put) hr⟩
  · walk_at "ds"
    exact use_FL rfl ⟨_, rfl, fun r hr => hP _ r ⟨_, _, _, _, put_same, by omega, ha⟩ Kept.put hr⟩
theorem ok__law_draw {f : Addr} {fd : FuncData} (F : Fun K "_law_draw" "_law_draw" s__law_draw f fd)   (B : Blt mg) {f__law_filled : Addr} {fd__law_filled : FuncData} {ps__law_filled : List Str} (D__law_filled : L2.Def P w K mg base 2 "_law_filled" f__law_filled fd__law_filled ps__law_filled (SpF K FW_filled))  : FnOk P w K mg base CX0 3 f fd ["_law_well_here", "_law_many"] (SpF K FW_draw) := by
  refine F.ok sc__law_draw (fun vs H Q E h => ?_) (fun cdv A outer s H vs Q E hr h => ?_)
  · exact lenF h fun c g es P h => h.1
  obtain ⟨I, g, es, P, ok, r, hF, k⟩ := spFL h
  have nd := sc__law_draw.nd
  have hu := hr.units
  have hu1 := hu_of hr
  refine ⟨_, (pss_cons (L2.ps_if (pt_cmpR (op_zeq (K := (sC K).K) hu) (pe_ix (ix_z (K := (sC K).K) (w := w)) (pv 0) pe_int (fun _ _ => rfl)) pe_int (nomark _)) (pss_one (ps_asg (pe_call D__law_filled.ok (hr.mono (by first | decide | omega)) rfl D__law_filled.at_ D__law_filled.kp D__law_filled.bd .nil pass0 (pa_cons (pv 0) pa_nil)) (pg_sub (pv 0) pe_int set_list))) pss_nil)
      (pss_cons (L2.ps_set (i := 2) nd rfl (by first | exact Or.inl rfl | exact Or.inr rfl | exact Or.inr (Or.inl rfl)) (pe_op op_mod (pe_callTy cr_int (by rfl) B.int_ (by decide +kernel) (pa_cons (pe_ix (ix_z (K := (sC K).K) (w := w)) (pv 0) pe_int (fun _ _ => rfl)) pa_nil)) (pv 1)))
      (pss_cons (ps_asg (pe_op op_fdivW (pe_callTy cr_int (by rfl) B.int_ (by decide +kernel) (pa_cons (pe_ix (ix_z (K := (sC K).K) (w := w)) (pv 0) pe_int (fun _ _ => rfl)) pa_nil)) (pv 1)) (pg_sub (pv 0) pe_int set_list))
      (pss_one (L2.ps_ret (pv 2)))))), body_run ok r k ?_⟩
  obtain ⟨p, n, rfl, h1, h2, hW, hP⟩ := hF
  have hn0 : 0 < n := by omega
  refine ps_cut (fun ρ1 g1 => WellIs g1 p ∧ Kept g g1 p ∧ ρ1 = [some (.r (.ref p)), some (.d (.int n)), none]) ?_ ?_
  · obtain ⟨ns, i, a, m, hg, hi, ha⟩ := id hW
    walk_at "ds"
    refine ite_b (fun hb => ?_) (fun hb => ?_)
    · walk_at "ds"
      refine use_FL rfl ⟨p, rfl, hW, fun g1 r hW1 hk1 hr => ?_⟩
      obtain ⟨ns, i, a, m, hg, hi, ha⟩ := id hW1
      walk_at "ds"
      (refine' ⟨_, _, _, 2, rfl, rfl, ?h, ?i, ?_⟩); (case h => first | assumption | exact put_same); (case i => rfl)
      exact ⟨⟨_, _, _, _, put_same, hi, hr⟩, hk1.trans Kept.put, rfl⟩
    · walk_at "ds"
      exact ⟨hW, Kept.refl, rfl⟩
  · rintro ρ1 g1 ⟨⟨ns, i, a, m, hg, hi, ha⟩, hk, rfl⟩
    walk_at "ds"
    refine o_iic ⟨hn0, Nat.lt_trans ((Nat.log2_lt (k := 40) (by omega)).mpr (by omega)) (by decide)⟩ ?_
    walk_at "ds"
    (refine' ⟨_, _, _, 2, rfl, rfl, ?h, ?i, ?_⟩); (case h => first | assumption | exact put_same); (case i => rfl)
    walk_at "ds"
    exact hP _ _ ⟨_, _, _, _, put_same, hi, Int.ediv_nonneg ha (by omega)⟩ (hk.trans Kept.put) (Int.emod_nonneg _ (by omega)) (Int.emod_lt_of_pos _ hn0)
theorem ok__law_number {f : Addr} {fd : FuncData} (F : Fun K "_law_number" "_law_number" s__law_number f fd)   {f__law_draw : Addr} {fd__law_draw : FuncData} {ps__law_draw : List Str} (D__law_draw : L2.Def P w K mg base 3 "_law_draw" f__law_draw fd__law_draw ps__law_draw (SpF K FW_draw))  : FnOk P w K mg base CX0 4 f fd ["_law_well_here"] (SpF K (FWd drawnNum)) := by
  refine F.ok sc__law_number (fun vs H Q E h => ?_) (fun cdv A outer s H vs Q E hr h => ?_)
  · exact lenF h fun c g es P h => h.1
  obtain ⟨I, g, es, P, ok, r, hF, k⟩ := spFL h
  have nd := sc__law_number.nd
  have hu := hr.units
  have hu1 := hu_of hr
  refine ⟨_, (pss_cons (L2.ps_set (i := 1) nd rfl (by first | exact Or.inl rfl | exact Or.inr rfl | exact Or.inr (Or.inl rfl)) (pe_call D__law_draw.ok (hr.mono (by first | decide | omega)) rfl D__law_draw.at_ D__law_draw.kp D__law_draw.bd .nil pass0 (pa_cons (pv 0) (pa_cons pe_int pa_nil))))
      (pss_cons (L2.ps_if (pt_cmpR (op_zeq (K := (sC K).K) hu) (pv 1) pe_int (nomark _)) (pss_one (L2.ps_ret (pe_call D__law_draw.ok (hr.mono (by first | decide | omega)) rfl D__law_draw.at_ D__law_draw.kp D__law_draw.bd .nil pass0 (pa_cons (pv 0) (pa_cons (pe_op op_pow pe_int pe_int) pa_nil))))) pss_nil)
      (pss_one (L2.ps_ret (pe_call D__law_draw.ok (hr.mono (by first | decide | omega)) rfl D__law_draw.at_ D__law_draw.kp D__law_draw.bd .nil pass0 (pa_cons (pv 0) (pa_cons (pe_ix (ix_z (K := (sC K).K) (w := w)) (pe_lst (pa_cons pe_int (pa_cons pe_int (pa_cons (pe_op op_pow pe_int pe_int) pa_nil)))) (pv 1) (fun _ _ => rfl)) pa_nil))))))), body_run ok r k ?_⟩
  obtain ⟨p, rfl, hW, hP⟩ := hF
  refine Dl.ps_seq (Dl.ps_set ?_)
  walk_at "ds"
  refine use_FL rfl ⟨p, _, rfl, by decide, by decide, hW, fun g1 k hW1 hk1 h0 h1 => ?_⟩
  walk_at "ds"
  refine ite_b (fun hb => ?_) (fun hb => ?_)
  · walk_at "ds"
    refine o_iic ⟨by decide, by decide, by decide⟩ ?_
    walk_at "ds"
    have e : (10 : Int) ^ (11 : Int).toNat = 100000000000 := by decide
    rw [e]
    exact use_FL rfl ⟨p, _, rfl, by decide, by decide, hW1, fun g2 r hW2 hk2 r0 r1 => hP g2 _ hW2 (hk1.trans hk2) ⟨r, rfl, r0, r1⟩⟩
  · have hb' := of_decide_eq_false hb
    walk_at "ds"
    refine pv_lst2 ?_
    walk_at "ds"
    refine o_iic ⟨by decide, by decide, by decide⟩ ?_
    walk_at "ds"
    have e : (10 : Int) ^ (9 : Int).toNat = 1000000000 := by decide
    rw [e]
    obtain ⟨x, hx, hm⟩ := atI_some (xs := [PyData.int 3, .int 40, .int 1000000000]) (i := k) h0 (by simp only [List.length_cons, List.length_nil]; omega)
    refine o_ixL hx ?_
    obtain ⟨N, rfl, n0, n1⟩ : ∃ N : Int, x = .int N ∧ 1 ≤ N ∧ N ≤ 1000000000 := by
      simp only [List.mem_cons, List.not_mem_nil, or_false] at hm
      rcases hm with rfl | rfl | rfl <;> exact ⟨_, rfl, by decide, by decide⟩
    walk_at "ds"
    exact use_FL rfl ⟨p, _, rfl, n0, by omega, hW1, fun g2 r hW2 hk2 r0 r1 => hP g2 _ hW2 (hk1.trans hk2) ⟨r, rfl, r0, by omega⟩⟩
theorem ok__law_signs {f : Addr} {fd : FuncData} (F : Fun K "_law_signs" "_law_signs" s__law_signs f fd)     : FnOk P w K mg base CX0 1 f fd [] (SpF K FW_signs) := by
  refine F.ok sc__law_signs (fun vs H Q E h => ?_) (fun cdv A outer s H vs Q E hr h => ?_)
  · exact lenF h fun c g es P h => h.1
  obtain ⟨I, g, es, P, ok, r, hF, k⟩ := spFL h
  have nd := sc__law_signs.nd
  have hu := hr.units
  have hu1 := hu_of hr
  refine ⟨_, (pss_cons (L2.ps_set (i := 0) nd rfl (by first | exact Or.inl rfl | exact Or.inr rfl | exact Or.inr (Or.inl rfl)) pe_str)
      (pss_one (L2.ps_ret (pe_op (op_zadd (K := (sC K).K)) (pv 0) pe_str)))), body_run ok r k ?_⟩
  obtain ⟨rfl, hP⟩ := hF
  walk_at "ds"
  refine o_addS (le_line (Nat.le_of_ble_eq_true rfl)) ?_
  exact hP _ (by decide +kernel) (by decide +kernel)
theorem ok__law_string {f : Addr} {fd : FuncData} (F : Fun K "_law_string" "_law_string" s__law_string f fd)   (B : Blt mg) {f__law_signs : Addr} {fd__law_signs : FuncData} {ps__law_signs : List Str} (D__law_signs : L2.Def P w K mg base 1 "_law_signs" f__law_signs fd__law_signs ps__law_signs (SpF K FW_signs)) {f__law_draw : Addr} {fd__law_draw : FuncData} {ps__law_draw : List Str} (D__law_draw : L2.Def P w K mg base 3 "_law_draw" f__law_draw fd__law_draw ps__law_draw (SpF K FW_draw))  : FnOk P w K mg base CX0 4 f fd ["_law_well_here", "_law_many"] (SpF K FW_string) := by
  refine F.ok sc__law_string (fun vs H Q E h => ?_) (fun cdv A outer s H vs Q E hr h => ?_)
  · exact lenF h fun c g es P h => h.1
  obtain ⟨I, g, es, P, ok, r, hF, k⟩ := spFL h
  have nd := sc__law_string.nd
  have hu := hr.units
  have hu1 := hu_of hr
  refine ⟨_, (pss_cons (L2.ps_set (i := 2) nd rfl (by first | exact Or.inl rfl | exact Or.inr rfl | exact Or.inr (Or.inl rfl)) (pe_call0 D__law_signs.ok (hr.mono (by first | decide | omega)) rfl D__law_signs.at_ D__law_signs.kp D__law_signs.bd .nil pass0))
      (pss_one (L2.ps_ret (pe_joinZ (K := (sC K).K) pe_str (pe_lc (own := [("_law_k", 3)]) (g := gName 3) (tt := tYes) rfl nd (pi_range1 rfl B.range_ (pa_cons (pv 1) pa_nil)) (blkOk_by (N := ["_law_well_here", "_law_many", "_law_signs_here", "_law_k"]) (sc := defScope s__law_string) (by decide +kernel)) (fun _ _ _ _ _ => pg_name (i := 3) nd rfl (Or.inl rfl)) (fun _ _ _ _ _ => pts_nil) (fun _ _ _ _ _ => (pe_ix (ix_z (K := (sC K).K) (w := w)) (pv 2) (pe_call D__law_draw.ok (hr.mono (by first | decide | omega)) rfl D__law_draw.at_ D__law_draw.kp D__law_draw.bd .nil pass0 (pa_cons (pv 0) (pa_cons pe_int pa_nil))) (fun _ _ => rfl)))))))), body_run ok r k ?_⟩
  obtain ⟨p, n, rfl, h0, h1, hW, hP⟩ := hF
  refine Dl.ps_seq (Dl.ps_set ?_)
  walk_at "ds"
  refine use_FL rfl ⟨rfl, fun z hz hs => ?_⟩
  walk_at "ds"
  refine pv_word (pit_rng1 ?_)
  walk_at "ds"
  refine ⟨by omega, by omega, by simp, by omega, fun x => isSign x = true, fun g2 => WellIs g2 p ∧ Kept g g2 p, ⟨hW, Kept.refl⟩, fun i g2 hi hJ => ?_, fun ns g2 hl hg hJ => ?_⟩
  · walk_at "ds"
    refine use_FL rfl ⟨p, _, rfl, by decide, by decide, hJ.1, fun g3 r hW3 hk3 h3 h4 => ?_⟩
    obtain ⟨x, hx, hm⟩ := atI_some (xs := z.cps.toList) h3 (by have e : z.cps.toList.length = z.length := Array.length_toList; rw [e, hz]; exact h4)
    refine o_ixS (le_line (by omega)) hx ?_
    exact ⟨x, rfl, hs x hm, hW3, hJ.2.trans hk3⟩
  · refine hP g2 _ hJ.1 hJ.2 ?_ ?_
    · have := hl; (simp only [Str.length, List.size_toArray]; omega)
    · intro x m; exact hg x (by simpa using m)
theorem ok__law_name {f : Addr} {fd : FuncData} (F : Fun K "_law_name" "_law_name" s__law_name f fd)   (B : Blt mg) {f__law_draw : Addr} {fd__law_draw : FuncData} {ps__law_draw : List Str} (D__law_draw : L2.Def P w K mg base 3 "_law_draw" f__law_draw fd__law_draw ps__law_draw (SpF K FW_draw))  : FnOk P w K mg base CX0 4 f fd ["_law_well_here"] (SpF K (FWd drawnName)) := by
  refine F.ok sc__law_name (fun vs H Q E h => ?_) (fun cdv A outer s H vs Q E hr h => ?_)
  · exact lenF h fun c g es P h => h.1
  obtain ⟨I, g, es, P, ok, r, hF, k⟩ := spFL h
  have nd := sc__law_name.nd
  have hu := hr.units
  have hu1 := hu_of hr
  refine ⟨_, (pss_cons (L2.ps_set (i := 1) nd rfl (by first | exact Or.inl rfl | exact Or.inr rfl | exact Or.inr (Or.inl rfl)) (pe_op (op_zadd (K := (sC K).K)) pe_int (pe_call D__law_draw.ok (hr.mono (by first | decide | omega)) rfl D__law_draw.at_ D__law_draw.kp D__law_draw.bd .nil pass0 (pa_cons (pv 0) (pa_cons pe_int pa_nil)))))
      (pss_cons (L2.ps_if (pt_cmpR (op_zeq (K := (sC K).K) hu) (pe_call D__law_draw.ok (hr.mono (by first | decide | omega)) rfl D__law_draw.at_ D__law_draw.kp D__law_draw.bd .nil pass0 (pa_cons (pv 0) (pa_cons pe_int pa_nil))) pe_int (nomark _)) (pss_one (L2.ps_set (i := 1) nd rfl (by first | exact Or.inl rfl | exact Or.inr rfl | exact Or.inr (Or.inl rfl)) (pe_op (op_zadd (K := (sC K).K)) pe_int (pe_call D__law_draw.ok (hr.mono (by first | decide | omega)) rfl D__law_draw.at_ D__law_draw.kp D__law_draw.bd .nil pass0 (pa_cons (pv 0) (pa_cons pe_int pa_nil)))))) pss_nil)
      (pss_one (L2.ps_ret (pe_joinZ (K := (sC K).K) pe_str (pe_lc (own := [("_law_k", 2)]) (g := gName 2) (tt := tYes) rfl nd (pi_range1 rfl B.range_ (pa_cons (pv 1) pa_nil)) (blkOk_by (N := ["_law_well_here", "_law_many", "_law_k"]) (sc := defScope s__law_name) (by decide +kernel)) (fun _ _ _ _ _ => pg_name (i := 2) nd rfl (Or.inl rfl)) (fun _ _ _ _ _ => pts_nil) (fun _ _ _ _ _ => (pe_ix (ix_z (K := (sC K).K) (w := w)) pe_str (pe_call D__law_draw.ok (hr.mono (by first | decide | omega)) rfl D__law_draw.at_ D__law_draw.kp D__law_draw.bd .nil pass0 (pa_cons (pv 0) (pa_cons pe_int pa_nil))) (fun _ _ => rfl))))))))), body_run ok r k ?_⟩
  obtain ⟨p, rfl, hW, hP⟩ := hF
  refine Dl.ps_seq (Dl.ps_set ?_)
  walk_at "ds"
  refine use_FL rfl ⟨p, _, rfl, by decide, by decide, hW, fun g1 k hW1 hk1 h0 h1 => ?_⟩
  refine o_add ?_
  refine ps_cut (c := sC K) (fun ρ1 (g2 : Store) => WellIs g2 p ∧ Kept g g2 p ∧ ∃ m : Int, 1 ≤ m ∧ m ≤ 8 ∧ ρ1 = [some (.r (.ref p)), some (.d (.int m)), none]) ?_ ?_
  · walk_at "ds"
    refine use_FL rfl ⟨p, _, rfl, by decide, by decide, hW1, fun g2 j hW2 hk2 j0 j1 => ?_⟩
    walk_at "ds"
    refine ite_b (fun hb => ?_) (fun hb => ?_)
    · walk_at "ds"
      refine use_FL rfl ⟨p, _, rfl, by decide, by decide, hW2, fun g3 l hW3 hk3 l0 l1 => ?_⟩
      walk_at "ds"
      exact ⟨hW3, (hk1.trans hk2).trans hk3, 1 + l, by omega, by omega, rfl⟩
    · walk_at "ds"
      exact ⟨hW2, hk1.trans hk2, 1 + k, by omega, by omega, rfl⟩
  · rintro ρ1 g2 ⟨hW2, hk2, m, m0, m1, rfl⟩
    walk_at "ds"
    refine pv_word (pit_rng1 ?_)
    walk_at "ds"
    refine ⟨by omega, by omega, by simp, by omega, fun x => x ∈ lows.cps.toList, fun g3 => WellIs g3 p ∧ Kept g g3 p, ⟨hW2, hk2⟩, fun i g3 hi hJ => ?_, fun ns g3 hl hg hJ => ?_⟩
    · walk_at "ds"
      refine use_FL rfl ⟨p, _, rfl, by decide, by decide, hJ.1, fun g4 r hW4 hk4 h3 h4 => ?_⟩
      obtain ⟨x, hx, hm⟩ := atI_some (xs := lows.cps.toList) h3 h4
      refine o_ixS (le_line (Nat.le_of_ble_eq_true rfl)) hx ?_
      exact ⟨x, rfl, hm, hW4, hJ.2.trans hk4⟩
    · have q := name_ok (ns := ns) (by omega) (by omega) hg
      exact hP g3 _ hJ.1 hJ.2 ⟨_, rfl, good_name q.1⟩
theorem ok__law_text {f : Addr} {fd : FuncData} (F : Fun K "_law_text" "_law_text" s__law_text f fd)   {f__law_draw : Addr} {fd__law_draw : FuncData} {ps__law_draw : List Str} (D__law_draw : L2.Def P w K mg base 3 "_law_draw" f__law_draw fd__law_draw ps__law_draw (SpF K FW_draw)) {f__law_string : Addr} {fd__law_string : FuncData} {ps__law_string : List Str} (D__law_string : L2.Def P w K mg base 4 "_law_string" f__law_string fd__law_string ps__law_string (SpF K FW_string))  : FnOk P w K mg base CX0 5 f fd ["_law_well_here"] (SpF K (FWd drawnText)) := by
  refine F.ok sc__law_text (fun vs H Q E h => ?_) (fun cdv A outer s H vs Q E hr h => ?_)
  · exact lenF h fun c g es P h => h.1
  obtain ⟨I, g, es, P, ok, r, hF, k⟩ := spFL h
  have nd := sc__law_text.nd
  have hu := hr.units
  have hu1 := hu_of hr
  refine ⟨_, (pss_cons (L2.ps_set (i := 1) nd rfl (by first | exact Or.inl rfl | exact Or.inr rfl | exact Or.inr (Or.inl rfl)) (pe_call D__law_draw.ok (hr.mono (by first | decide | omega)) rfl D__law_draw.at_ D__law_draw.kp D__law_draw.bd .nil pass0 (pa_cons (pv 0) (pa_cons pe_int pa_nil))))
      (pss_one (L2.ps_ret (pe_call D__law_string.ok (hr.mono (by first | decide | omega)) rfl D__law_string.at_ D__law_string.kp D__law_string.bd .nil pass0 (pa_cons (pv 0) (pa_cons (pe_ix (ix_z (K := (sC K).K) (w := w)) (pe_lst (pa_cons pe_int (pa_cons (pe_op (op_zadd (K := (sC K).K)) pe_int (pe_call D__law_draw.ok (hr.mono (by first | decide | omega)) rfl D__law_draw.at_ D__law_draw.kp D__law_draw.bd .nil pass0 (pa_cons (pv 0) (pa_cons pe_int pa_nil)))) (pa_cons (pe_call D__law_draw.ok (hr.mono (by first | decide | omega)) rfl D__law_draw.at_ D__law_draw.kp D__law_draw.bd .nil pass0 (pa_cons (pv 0) (pa_cons pe_int pa_nil))) (pa_cons pe_int (pa_cons (pe_call D__law_draw.ok (hr.mono (by first | decide | omega)) rfl D__law_draw.at_ D__law_draw.kp D__law_draw.bd .nil pass0 (pa_cons (pv 0) (pa_cons pe_int pa_nil))) pa_nil)))))) (pv 1) (fun _ _ => rfl)) pa_nil)))))), body_run ok r k ?_⟩
  obtain ⟨p, rfl, hW, hP⟩ := hF
  refine Dl.ps_seq (Dl.ps_set ?_)
  walk_at "ds"
  refine use_FL rfl ⟨p, _, rfl, by decide, by decide, hW, fun g1 k hW1 hk1 h0 h1 => ?_⟩
  walk_at "ds"
  refine pv_lst2 ?_
  walk_at "ds"
  refine use_FL rfl ⟨p, _, rfl, by decide, by decide, hW1, fun g2 a hW2 hk2 a0 a1 => ?_⟩
  walk_at "ds"
  refine use_FL rfl ⟨p, _, rfl, by decide, by decide, hW2, fun g3 b hW3 hk3 b0 b1 => ?_⟩
  walk_at "ds"
  refine use_FL rfl ⟨p, _, rfl, by decide, by decide, hW3, fun g4 e hW4 hk4 e0 e1 => ?_⟩
  walk_at "ds"
  obtain ⟨x, hx, hm⟩ := atI_some (xs := [PyData.int 0, .int (1 + a), .int b, .int 96, .int e]) (i := k) h0 (by simp only [List.length_cons, List.length_nil]; omega)
  refine o_ixL hx ?_
  obtain ⟨N, rfl, n0, n1⟩ : ∃ N : Int, x = .int N ∧ 0 ≤ N ∧ N ≤ 96 := by
    simp only [List.mem_cons, List.not_mem_nil, or_false] at hm
    rcases hm with rfl | rfl | rfl | rfl | rfl <;> exact ⟨_, rfl, by omega, by omega⟩
  walk_at "ds"
  exact use_FL rfl ⟨p, _, rfl, n0, by omega, hW4, fun g5 z hW5 hk5 hz hs => hP g5 _ hW5 ((((hk1.trans hk2).trans hk3).trans hk4).trans hk5) ⟨z, rfl, good_text (text_of hs (by omega))⟩⟩
theorem ok__law_content {f : Addr} {fd : FuncData} (F : Fun K "_law_content" "_law_content" s__law_content f fd)   {f__law_draw : Addr} {fd__law_draw : FuncData} {ps__law_draw : List Str} (D__law_draw : L2.Def P w K mg base 3 "_law_draw" f__law_draw fd__law_draw ps__law_draw (SpF K FW_draw)) {f__law_text : Addr} {fd__law_text : FuncData} {ps__law_text : List Str} (D__law_text : L2.Def P w K mg base 5 "_law_text" f__law_text fd__law_text ps__law_text (SpF K (FWd drawnText)))  : FnOk P w K mg base CX0 6 f fd ["_law_well_here"] (SpF K (FWd drawnContent)) := by
  refine F.ok sc__law_content (fun vs H Q E h => ?_) (fun cdv A outer s H vs Q E hr h => ?_)
  · exact lenF h fun c g es P h => h.1
  obtain ⟨I, g, es, P, ok, r, hF, k⟩ := spFL h
  have nd := sc__law_content.nd
  have hu := hr.units
  have hu1 := hu_of hr
  refine ⟨_, (pss_cons (L2.ps_if (pt_cmpR (op_zeq (K := (sC K).K) hu) (pe_call D__law_draw.ok (hr.mono (by first | decide | omega)) rfl D__law_draw.at_ D__law_draw.kp D__law_draw.bd .nil pass0 (pa_cons (pv 0) (pa_cons pe_int pa_nil))) pe_int (nomark _)) (pss_one (L2.ps_ret pe_non)) pss_nil)
      (pss_one (L2.ps_ret (pe_call D__law_text.ok (hr.mono (by first | decide | omega)) rfl D__law_text.at_ D__law_text.kp D__law_text.bd .nil pass0 (pa_cons (pv 0) pa_nil))))), body_run ok r k ?_⟩
  obtain ⟨p, rfl, hW, hP⟩ := hF
  refine ps_cut (fun ρ1 g1 => WellIs g1 p ∧ Kept g g1 p ∧ ρ1 = [some (.r (.ref p))]) ?_ ?_
  · walk_at "ds"
    refine use_FL rfl ⟨p, _, rfl, by decide, by decide, hW, fun g1 k hW1 hk1 h0 h1 => ?_⟩
    walk_at "ds"
    refine ite_b (fun hb => ?_) (fun hb => ?_)
    · walk_at "ds"
      exact hP g1 _ hW1 hk1 good_none
    · walk_at "ds"
      exact ⟨hW1, hk1, rfl⟩
  · rintro ρ1 g1 ⟨hW1, hk1, rfl⟩
    walk_at "ds"
    refine use_FL rfl ⟨p, rfl, hW1, fun g2 d hW2 hk2 hd => ?_⟩
    obtain ⟨z, rfl, hz⟩ := hd
    exact hP g2 _ hW2 (hk1.trans hk2) ⟨hz.ok, hz.sz⟩
theorem ok__law_client {f : Addr} {fd : FuncData} (F : Fun K "_law_client" "_law_client" s__law_client f fd)   {f__law_draw : Addr} {fd__law_draw : FuncData} {ps__law_draw : List Str} (D__law_draw : L2.Def P w K mg base 3 "_law_draw" f__law_draw fd__law_draw ps__law_draw (SpF K FW_draw))  : FnOk P w K mg base CX0 4 f fd ["_law_well_here"] (SpF K (FWd drawnClient)) := by
  refine F.ok sc__law_client (fun vs H Q E h => ?_) (fun cdv A outer s H vs Q E hr h => ?_)
  · exact lenF h fun c g es P h => h.1
  obtain ⟨I, g, es, P, ok, r, hF, k⟩ := spFL h
  have nd := sc__law_client.nd
  have hu := hr.units
  have hu1 := hu_of hr
  refine ⟨_, (pss_one (L2.ps_ret (pe_op (op_zadd (K := (sC K).K)) pe_int (pe_call D__law_draw.ok (hr.mono (by first | decide | omega)) rfl D__law_draw.at_ D__law_draw.kp D__law_draw.bd .nil pass0 (pa_cons (pv 0) (pa_cons pe_int pa_nil)))))), body_run ok r k ?_⟩
  obtain ⟨p, rfl, hW, hP⟩ := hF
  walk_at "ds"
  refine use_FL rfl ⟨p, _, rfl, by decide, by decide, hW, fun g1 k hW1 hk1 h0 h1 => ?_⟩
  walk_at "ds"
  exact hP g1 _ hW1 hk1 ⟨_, rfl, by omega, by omega⟩
theorem ok__law_edit {f : Addr} {fd : FuncData} (F : Fun K "_law_edit" "_law_edit" s__law_edit f fd)   {f__law_draw : Addr} {fd__law_draw : FuncData} {ps__law_draw : List Str} (D__law_draw : L2.Def P w K mg base 3 "_law_draw" f__law_draw fd__law_draw ps__law_draw (SpF K FW_draw)) {f__law_text : Addr} {fd__law_text : FuncData} {ps__law_text : List Str} (D__law_text : L2.Def P w K mg base 5 "_law_text" f__law_text fd__law_text ps__law_text (SpF K (FWd drawnText))) {f__law_number : Addr} {fd__law_number : FuncData} {ps__law_number : List Str} (D__law_number : L2.Def P w K mg base 4 "_law_number" f__law_number fd__law_number ps__law_number (SpF K (FWd drawnNum))) {f__law_name : Addr} {fd__law_name : FuncData} {ps__law_name : List Str} (D__law_name : L2.Def P w K mg base 4 "_law_name" f__law_name fd__law_name ps__law_name (SpF K (FWd drawnName))) {f__law_client : Addr} {fd__law_client : FuncData} {ps__law_client : List Str} (D__law_client : L2.Def P w K mg base 4 "_law_client" f__law_client fd__law_client ps__law_client (SpF K (FWd drawnClient)))  : FnOk P w K mg base CX0 6 f fd ["_law_well_here"] (SpF K (FWd drawnEdit)) := by
  refine F.ok sc__law_edit (fun vs H Q E h => ?_) (fun cdv A outer s H vs Q E hr h => ?_)
  · exact lenF h fun c g es P h => h.1
  obtain ⟨I, g, es, P, ok, r, hF, k⟩ := spFL h
  have nd := sc__law_edit.nd
  have hu := hr.units
  have hu1 := hu_of hr
  refine ⟨_, (pss_cons (L2.ps_set (i := 1) nd rfl (by first | exact Or.inl rfl | exact Or.inr rfl | exact Or.inr (Or.inl rfl)) (pe_call D__law_draw.ok (hr.mono (by first | decide | omega)) rfl D__law_draw.at_ D__law_draw.kp D__law_draw.bd .nil pass0 (pa_cons (pv 0) (pa_cons pe_int pa_nil))))
      (pss_cons (L2.ps_if (pt_cmpR (op_zeq (K := (sC K).K) hu) (pv 1) pe_int (nomark _)) (pss_one (L2.ps_ret (pe_tup (pa_cons pe_str (pa_cons (pe_call D__law_text.ok (hr.mono (by first | decide | omega)) rfl D__law_text.at_ D__law_text.kp D__law_text.bd .nil pass0 (pa_cons (pv 0) pa_nil)) pa_nil))))) pss_nil)
      (pss_cons (L2.ps_if (pt_cmpR (op_zeq (K := (sC K).K) hu) (pv 1) pe_int (nomark _)) (pss_one (L2.ps_ret (pe_tup (pa_cons pe_str (pa_cons (pe_call D__law_number.ok (hr.mono (by first | decide | omega)) rfl D__law_number.at_ D__law_number.kp D__law_number.bd .nil pass0 (pa_cons (pv 0) pa_nil)) (pa_cons (pe_call D__law_number.ok (hr.mono (by first | decide | omega)) rfl D__law_number.at_ D__law_number.kp D__law_number.bd .nil pass0 (pa_cons (pv 0) pa_nil)) (pa_cons (pe_call D__law_text.ok (hr.mono (by first | decide | omega)) rfl D__law_text.at_ D__law_text.kp D__law_text.bd .nil pass0 (pa_cons (pv 0) pa_nil)) pa_nil))))))) pss_nil)
      (pss_cons (L2.ps_if (pt_cmpR (op_zeq (K := (sC K).K) hu) (pv 1) pe_int (nomark _)) (pss_one (L2.ps_ret (pe_tup (pa_cons pe_str pa_nil)))) pss_nil)
      (pss_cons (L2.ps_if (pt_cmpR (op_zeq (K := (sC K).K) hu) (pv 1) pe_int (nomark _)) (pss_one (L2.ps_ret (pe_tup (pa_cons pe_str (pa_cons (pe_call D__law_name.ok (hr.mono (by first | decide | omega)) rfl D__law_name.at_ D__law_name.kp D__law_name.bd .nil pass0 (pa_cons (pv 0) pa_nil)) pa_nil))))) pss_nil)
      (pss_one (L2.ps_ret (pe_tup (pa_cons (pe_ix (ix_z (K := (sC K).K) (w := w)) (pe_lst (pa_cons pe_str (pa_cons pe_str pa_nil))) (pe_op op_sub (pv 1) pe_int) (fun _ _ => rfl)) (pa_cons (pe_call D__law_client.ok (hr.mono (by first | decide | omega)) rfl D__law_client.at_ D__law_client.kp D__law_client.bd .nil pass0 (pa_cons (pv 0) pa_nil)) (pa_cons (pe_op (op_zadd (K := (sC K).K)) pe_int (pe_call D__law_number.ok (hr.mono (by first | decide | omega)) rfl D__law_number.at_ D__law_number.kp D__law_number.bd .nil pass0 (pa_cons (pv 0) pa_nil))) pa_nil))))))))))), body_run ok r k ?_⟩
  obtain ⟨p, rfl, hW, hP⟩ := hF
  refine Dl.ps_seq (Dl.ps_set ?_)
  walk_at "ds"
  refine use_FL rfl ⟨p, _, rfl, by decide, by decide, hW, fun g1 k hW1 hk1 h0 h1 => ?_⟩
  walk_at "ds"
  refine ite_b (fun hb => ?_) (fun hb => ?_)
  · walk_at "ds"
    refine use_FL rfl ⟨p, rfl, hW1, fun g2 d hW2 hk2 hd => ?_⟩
    obtain ⟨z, rfl, hz⟩ := hd
    walk_at "ds"
    exact hP g2 _ hW2 (hk1.trans hk2) ⟨edit_put hz.ok, (sz_w1 (by decide +kernel) (by decide) hz.sz (by simp [PyData.depth]) (len_text hz.ok))⟩
  have c0 := of_decide_eq_false hb
  walk_at "ds"
  refine ite_b (fun hb => ?_) (fun hb => ?_)
  · walk_at "ds"
    refine use_FL rfl ⟨p, rfl, hW1, fun g2 d hW2 hk2 hd => ?_⟩
    obtain ⟨a, rfl, a0, a1⟩ := hd
    walk_at "ds"
    refine use_FL rfl ⟨p, rfl, hW2, fun g3 d hW3 hk3 hd => ?_⟩
    obtain ⟨b, rfl, b0, b1⟩ := hd
    walk_at "ds"
    refine use_FL rfl ⟨p, rfl, hW3, fun g4 d hW4 hk4 hd => ?_⟩
    obtain ⟨z, rfl, hz⟩ := hd
    walk_at "ds"
    exact hP g4 _ hW4 (((hk1.trans hk2).trans hk3).trans hk4) ⟨edit_splice (decide_eq_true a0) (decide_eq_true b0) hz.ok, sz_w3 (by decide +kernel) (by decide) (sz_int (by omega) (by omega)) (sz_int (by omega) (by omega)) hz.sz (by simp [PyData.depth]) (len_text hz.ok)⟩
  have c1 := of_decide_eq_false hb
  walk_at "ds"
  refine ite_b (fun hb => ?_) (fun hb => ?_)
  · walk_at "ds"
    exact hP g1 _ hW1 hk1 ⟨edit_remove, sz_word (by decide +kernel) (by decide) (by simp) (by simp [PyData.weightAll])⟩
  have c2 := of_decide_eq_false hb
  walk_at "ds"
  refine ite_b (fun hb => ?_) (fun hb => ?_)
  · walk_at "ds"
    refine use_FL rfl ⟨p, rfl, hW1, fun g2 d hW2 hk2 hd => ?_⟩
    obtain ⟨z, rfl, hz⟩ := hd
    walk_at "ds"
    exact hP g2 _ hW2 (hk1.trans hk2) ⟨edit_take hz.ok, (sz_w1 (by decide +kernel) (by decide) hz.sz (by simp [PyData.depth]) (Nat.le_trans (len_name hz.ok) (by decide)))⟩
  have c3 := of_decide_eq_false hb
  walk_at "ds"
  refine pv_lst2 ?_
  walk_at "ds"
  obtain ⟨x, hx, hm⟩ := atI_some (xs := [PyData.str "adopt", .str "drop"]) (i := k - 4) (by omega) (by simp only [List.length_cons, List.length_nil]; omega)
  refine o_ixL hx ?_
  walk_at "ds"
  refine use_FL rfl ⟨p, rfl, hW1, fun g2 d hW2 hk2 hd => ?_⟩
  obtain ⟨a, rfl, a0, a1⟩ := hd
  walk_at "ds"
  refine use_FL rfl ⟨p, rfl, hW2, fun g3 d hW3 hk3 hd => ?_⟩
  obtain ⟨b, rfl, b0, b1⟩ := hd
  walk_at "ds"
  have hc : isClient (.int a) = true := by simp only [isClient, isBtw, Bool.and_eq_true, decide_eq_true_eq]; omega
  have hj : isNumber (.int (1 + b)) = true := by simp only [isNumber, decide_eq_true_eq]; omega
  refine hP g3 _ hW3 ((hk1.trans hk2).trans hk3) ?_
  simp only [List.mem_cons, List.not_mem_nil, or_false] at hm
  rcases hm with rfl | rfl
  · exact ⟨edit_adopt hc hj, sz_w2 (by decide +kernel) (by decide) (sz_int (by omega) (by omega)) (sz_int (by omega) (by omega))⟩
  · exact ⟨edit_drop hc hj, sz_w2 (by decide +kernel) (by decide) (sz_int (by omega) (by omega)) (sz_int (by omega) (by omega))⟩
theorem ok__law_any0 {f : Addr} {fd : FuncData} (F : Fun K "_law_any" "_law_any" s__law_any f fd) : FnOk P w K mg base CX0 5 f fd ["_law_well_here", "_law_deep"] (SpF K (FW_any 0)) := by
  refine F.ok sc__law_any (fun vs H Q E h => ?_) (fun cdv A outer s H vs Q E hr h => ?_)
  · exact lenF h fun c g es P h => h.1
  · obtain ⟨I, g, es, P, ok, r, hF, k⟩ := spFL h
    obtain ⟨p, n, rfl, h0, h1, -⟩ := hF
    exact absurd h1 (by omega)
theorem ok__law_any {f : Addr} {fd : FuncData} (F : Fun K "_law_any" "_law_any" s__law_any f fd)  {k0 : Nat} (B : Blt mg) {C_NoTable : Addr} (X_NoTable : ExcD K mg "NoTable" C_NoTable) (V_NoTable : ExcQ K C_NoTable "NoTable") {f__law_draw : Addr} {fd__law_draw : FuncData} {ps__law_draw : List Str} (D__law_draw : L2.Def P w K mg base 3 "_law_draw" f__law_draw fd__law_draw ps__law_draw (SpF K FW_draw)) {f__law_number : Addr} {fd__law_number : FuncData} {ps__law_number : List Str} (D__law_number : L2.Def P w K mg base 4 "_law_number" f__law_number fd__law_number ps__law_number (SpF K (FWd drawnNum))) {f__law_string : Addr} {fd__law_string : FuncData} {ps__law_string : List Str} (D__law_string : L2.Def P w K mg base 4 "_law_string" f__law_string fd__law_string ps__law_string (SpF K FW_string)) {f__law_name : Addr} {fd__law_name : FuncData} {ps__law_name : List Str} (D__law_name : L2.Def P w K mg base 4 "_law_name" f__law_name fd__law_name ps__law_name (SpF K (FWd drawnName))) {f__law_any : Addr} {fd__law_any : FuncData} {ps__law_any : List Str} (D__law_any : L2.Def P w K mg base (k0+5) "_law_any" f__law_any fd__law_any ps__law_any (SpF K (FW_any k0)))  : FnOk P w K mg base CX0 (k0+6) f fd ["_law_well_here", "_law_deep"] (SpF K (FW_any (k0+1))) := by
  refine F.ok sc__law_any (fun vs H Q E h => ?_) (fun cdv A outer s H vs Q E hr h => ?_)
  · exact lenF h fun c g es P h => h.1
  obtain ⟨I, g, es, P, ok, r, hF, k⟩ := spFL h
  have nd := sc__law_any.nd
  have hu := hr.units
  have hu1 := hu_of hr
  refine ⟨_, (pss_cons (L2.ps_set (i := 2) nd rfl (by first | exact Or.inl rfl | exact Or.inr rfl | exact Or.inr (Or.inl rfl)) (pe_call D__law_draw.ok (hr.mono (by first | decide | omega)) rfl D__law_draw.at_ D__law_draw.kp D__law_draw.bd .nil pass0 (pa_cons (pv 0) (pa_cons pe_int pa_nil))))
      (pss_cons (L2.ps_if (pt_cmpR (op_zeq (K := (sC K).K) hu) (pv 1) pe_int (nomark _)) (pss_one (L2.ps_set (i := 2) nd rfl (by first | exact Or.inl rfl | exact Or.inr rfl | exact Or.inr (Or.inl rfl)) (pe_op op_mod (pe_callTy cr_int (by rfl) B.int_ (by decide +kernel) (pa_cons (pv 2) pa_nil)) pe_int))) pss_nil)
      (pss_cons (L2.ps_if (pt_cmpR (op_zeq (K := (sC K).K) hu) (pv 2) pe_int (nomark _)) (pss_one (L2.ps_ret (pe_op op_sub (pe_call D__law_draw.ok (hr.mono (by first | decide | omega)) rfl D__law_draw.at_ D__law_draw.kp D__law_draw.bd .nil pass0 (pa_cons (pv 0) (pa_cons pe_int pa_nil))) pe_int))) pss_nil)
      (pss_cons (L2.ps_if (pt_cmpR (op_zeq (K := (sC K).K) hu) (pv 2) pe_int (nomark _)) (pss_one (L2.ps_ret (pe_op op_sub (pe_un un_neg pe_int) (pe_call D__law_number.ok (hr.mono (by first | decide | omega)) rfl D__law_number.at_ D__law_number.kp D__law_number.bd .nil pass0 (pa_cons (pv 0) pa_nil))))) pss_nil)
      (pss_cons (L2.ps_if (pt_cmpR (op_zeq (K := (sC K).K) hu) (pv 2) pe_int (nomark _)) (pss_one (L2.ps_ret (pe_cmpR (op_zeq (K := (sC K).K) hu) (pe_call D__law_draw.ok (hr.mono (by first | decide | omega)) rfl D__law_draw.at_ D__law_draw.kp D__law_draw.bd .nil pass0 (pa_cons (pv 0) (pa_cons pe_int pa_nil))) pe_int (nomark _)))) pss_nil)
      (pss_cons (L2.ps_if (pt_cmpR (op_zeq (K := (sC K).K) hu) (pv 2) pe_int (nomark _)) (pss_one (L2.ps_ret pe_non)) pss_nil)
      (pss_cons (L2.ps_if (pt_cmpR (op_zeq (K := (sC K).K) hu) (pv 2) pe_int (nomark _)) (pss_one (L2.ps_ret (pe_call D__law_string.ok (hr.mono (by first | decide | omega)) rfl D__law_string.at_ D__law_string.kp D__law_string.bd .nil pass0 (pa_cons (pv 0) (pa_cons (pe_call D__law_draw.ok (hr.mono (by first | decide | omega)) rfl D__law_draw.at_ D__law_draw.kp D__law_draw.bd .nil pass0 (pa_cons (pv 0) (pa_cons pe_int pa_nil))) pa_nil))))) pss_nil)
      (pss_cons (L2.ps_if (pt_cmpR (op_zeq (K := (sC K).K) hu) (pv 2) pe_int (nomark _)) (pss_one (L2.ps_ret (pe_op (op_zadd (K := (sC K).K)) (pe_call D__law_name.ok (hr.mono (by first | decide | omega)) rfl D__law_name.at_ D__law_name.kp D__law_name.bd .nil pass0 (pa_cons (pv 0) pa_nil)) (pe_ix (ix_z (K := (sC K).K) (w := w)) (pe_lst (pa_cons pe_str (pa_cons pe_str (pa_cons pe_str (pa_cons pe_str pa_nil))))) (pe_call D__law_draw.ok (hr.mono (by first | decide | omega)) rfl D__law_draw.at_ D__law_draw.kp D__law_draw.bd .nil pass0 (pa_cons (pv 0) (pa_cons pe_int pa_nil))) (fun _ _ => rfl))))) pss_nil)
      (pss_cons (ps_setLc (i := 3) (own := [("_law_k", 4)]) (g := gName 4) (tt := tYes) rfl nd rfl rfl (sw_true rfl rfl rfl (by decide +kernel)) (pi_range1 rfl B.range_ (pa_cons (pe_call D__law_draw.ok (hr.mono (by first | decide | omega)) rfl D__law_draw.at_ D__law_draw.kp D__law_draw.bd .nil pass0 (pa_cons (pv 0) (pa_cons pe_int pa_nil))) pa_nil)) (blkOk_by (N := ["_law_well_here", "_law_deep", "_law_kind_here", "_law_items", "_law_k"]) (sc := defScope s__law_any) (by decide +kernel)) (fun _ _ _ _ _ => pg_name (i := 4) nd rfl (Or.inl rfl)) (fun _ _ _ _ _ => pts_nil) (fun _ _ _ _ _ => (pe_call D__law_any.ok (hr.mono (by first | decide | omega)) rfl D__law_any.at_ D__law_any.kp D__law_any.bd .nil pass0 (pa_cons (pv 0) (pa_cons (pe_op op_sub (pv 1) pe_int) pa_nil)))))
      (pss_cons (L2.ps_if (pt_cmpR op_zle (pv 2) pe_int (nomark _)) (pss_one (L2.ps_ret (pe_callTy (cr_tuple (K := (sC K).K)) (by rfl) B.tuple_ PyProof.Rows.boot_tuple (pa_cons (pv 3) pa_nil)))) pss_nil)
      (pss_cons (L2.ps_if (pt_cmpR (op_zeq (K := (sC K).K) hu) (pv 2) pe_int (nomark _)) (pss_one (L2.ps_ret (pv 3))) pss_nil)
      (pss_cons (L2.ps_if (pt_cmpR (op_zeq (K := (sC K).K) hu) (pv 2) pe_int (nomark _)) (pss_one (L2.ps_ret (pe_disp (pps_cons pe_str (pv 3) (pps_cons pe_int pe_non pps_nil)) (by rfl) (by rfl) (fun z => by cases z) (by decide)))) pss_nil)
      (pss_one (L2.ps_ret (pe_excV X_NoTable (by rfl)))))))))))))))), body_run ok r k ?_⟩
  obtain ⟨p, n, rfl, h0, h1, hW, hP⟩ := hF
  have w0 := wA_ge n.toNat
  refine Dl.ps_seq (Dl.ps_set ?_)
  walk_at "ds"
  refine use_FL rfl ⟨p, _, rfl, by decide, by decide, hW, fun g1 k hW1 hk1 k0' k1' => ?_⟩
  refine ps_cut (c := sC K) (fun ρ1 (g2 : Store) => g2 = g1 ∧ ∃ m : Int, 0 ≤ m ∧ m < 12 ∧ (n = 0 → m < 6) ∧ ρ1 = [some (.r (.ref p)), some (.d (.int n)), some (.d (.int m)), none, none]) ?_ ?_
  · walk_at "ds"
    refine ite_b (fun hb => ?_) (fun hb => ?_)
    · walk_at "ds"
      exact ⟨rfl, _, Int.emod_nonneg _ (by decide), by have := Int.emod_lt_of_pos k (b := 6) (by decide); omega, fun _ => Int.emod_lt_of_pos k (b := 6) (by decide), rfl⟩
    · have hb' := of_decide_eq_false hb
      walk_at "ds"
      exact ⟨rfl, k, k0', k1', fun e => absurd e hb', rfl⟩
  rintro ρ1 g2 ⟨rfl, m, m0, m1, m2, rfl⟩
  walk_at "ds"
  refine ite_b (fun hb => ?_) (fun hb => ?_)
  · walk_at "ds"
    refine use_FL rfl ⟨p, _, rfl, by decide, by decide, hW1, fun g3 r hW3 hk3 r0 r1 => ?_⟩
    walk_at "ds"
    exact hP g3 _ hW3 (hk1.trans hk3) ((sz_int (by omega) (by omega)).mono w0 (Nat.zero_le _))
  have b0 := of_decide_eq_false hb
  walk_at "ds"
  refine ite_b (fun hb => ?_) (fun hb => ?_)
  · walk_at "ds"
    refine use_FL rfl ⟨p, rfl, hW1, fun g3 d hW3 hk3 hd => ?_⟩
    obtain ⟨r, rfl, r0, r1⟩ := hd
    walk_at "ds"
    exact hP g3 _ hW3 (hk1.trans hk3) ((sz_int (by omega) (by omega)).mono w0 (Nat.zero_le _))
  have b1 := of_decide_eq_false hb
  walk_at "ds"
  refine ite_b (fun hb => ?_) (fun hb => ?_)
  · walk_at "ds"
    refine use_FL rfl ⟨p, _, rfl, by decide, by decide, hW1, fun g3 r hW3 hk3 r0 r1 => ?_⟩
    walk_at "ds"
    exact hP g3 _ hW3 (hk1.trans hk3) (sz_bool.mono (Nat.zero_le _) (Nat.zero_le _))
  have b2 := of_decide_eq_false hb
  walk_at "ds"
  refine ite_b (fun hb => ?_) (fun hb => ?_)
  · walk_at "ds"
    exact hP _ _ hW1 hk1 (sz_none.mono (Nat.zero_le _) (Nat.zero_le _))
  have b3 := of_decide_eq_false hb
  walk_at "ds"
  refine ite_b (fun hb => ?_) (fun hb => ?_)
  · walk_at "ds"
    refine use_FL rfl ⟨p, _, rfl, by decide, by decide, hW1, fun g3 r hW3 hk3 r0 r1 => ?_⟩
    walk_at "ds"
    refine use_FL rfl ⟨p, _, rfl, r0, by omega, hW3, fun g4 z hW4 hk4 hz hs => ?_⟩
    exact hP g4 _ hW4 ((hk1.trans hk3).trans hk4) ((sz_str (n := 40) (asci_signs hs) (by omega)).mono w0 (Nat.zero_le _))
  have b4 := of_decide_eq_false hb
  walk_at "ds"
  refine ite_b (fun hb => ?_) (fun hb => ?_)
  · walk_at "ds"
    refine use_FL rfl ⟨p, rfl, hW1, fun g3 d hW3 hk3 hd => ?_⟩
    obtain ⟨z, rfl, hz⟩ := hd
    walk_at "ds"
    refine pv_lst2 ?_
    walk_at "ds"
    refine use_FL rfl ⟨p, _, rfl, by decide, by decide, hW3, fun g4 r hW4 hk4 r0 r1 => ?_⟩
    obtain ⟨x, hx, hm⟩ := atI_some (xs := [PyData.str "", .str "\n", .str "A", .str "0"]) (i := r) r0 (by simp only [List.length_cons, List.length_nil]; omega)
    refine o_ixL hx ?_
    obtain ⟨y, rfl, y0, y1⟩ : ∃ y : Str, x = .str y ∧ asci y = true ∧ y.length ≤ 1 := by
      simp only [List.mem_cons, List.not_mem_nil, or_false] at hm
      rcases hm with rfl | rfl | rfl | rfl <;> exact ⟨_, rfl, by decide +kernel, by decide +kernel⟩
    have hl := len_name hz.ok
    refine o_addS (le_line (by omega)) ?_
    exact hP g4 _ hW4 ((hk1.trans hk3).trans hk4) ((sz_str (n := 40) (asci_app (name_asci hz.ok) y0) (by rw [len_app]; omega)).mono w0 (Nat.zero_le _))
  have b5 := of_decide_eq_false hb
  obtain ⟨q, rfl⟩ : ∃ q : Nat, n = (q : Int) + 1 := ⟨(n - 1).toNat, by omega⟩
  have eq : ((q : Int) + 1).toNat = q + 1 := by omega
  rw [eq] at hP
  refine Dl.ps_next ?_
  refine Dl.ps_seq (Dl.ps_set ?_)
  refine pv_lcG (pit_rng1 ?_)
  walk_at "ds"
  refine use_FL rfl ⟨p, _, rfl, by decide, by decide, hW1, fun g3 r hW3 hk3 r0 r1 => ?_⟩
  walk_at "ds"
  refine ⟨by omega, by omega, by simp, lt_line (by omega), fun _ d => Sz (wA q) (dA q) d, fun g4 => WellIs g4 p ∧ Kept g g4 p, ⟨hW3, hk1.trans hk3⟩, fun i g4 hi hJ => ?_, fun ds g4 hdl hG hJ => ?_⟩
  · walk_at "ds"
    refine use_FL rfl ⟨p, _, rfl, by omega, by omega, hJ.1, fun g5 d hW5 hk5 hd => ⟨d, rfl, ?_, hW5, hJ.2.trans hk5⟩⟩
    have e : ((q : Int) + 1 - 1).toNat = q := by omega
    rw [e] at hd
    exact hd
  have hds : ∀ d ∈ ds, Sz (wA q) (dA q) d := fun d m => by
    obtain ⟨i, hi, rfl⟩ := List.mem_iff_getElem.mp m
    exact hG i _ (List.getElem?_eq_getElem hi)
  obtain ⟨a1, a2, a3⟩ := all_bound hds
  have hlen : ds.length ≤ 3 := by omega
  have hw : PyData.weightAll ds ≤ 3 * (wA q + 1) := Nat.le_trans a2 (Nat.mul_le_mul_right _ hlen)
  have eW : wA (q + 1) = 3 * (wA q + 1) + 30 := rfl
  have eD : dA (q + 1) = dA q + 2 := rfl
  obtain ⟨hW4, hk4⟩ := hJ
  walk_at "ds"
  refine ite_b (fun hb => ?_) (fun hb => ?_)
  · walk_at "ds"
    refine oc_tupleL ?_
    exact hP g4 _ hW4 hk4 ((sz_tup a1 hw a3).mono (by omega) (by omega))
  walk_at "ds"
  refine ite_b (fun hb => ?_) (fun hb => ?_)
  · walk_at "ds"
    exact hP g4 _ hW4 hk4 ((sz_lst a1 hw a3).mono (by omega) (by omega))
  walk_at "ds"
  refine ite_b (fun hb => ?_) (fun hb => ?_)
  · walk_at "ds"
    refine pv_dispD ?_
    refine pp_cons ?_
    walk_at "ds"
    refine pp_consI ?_
    walk_at "ds"
    refine pp_nil ⟨_, rfl, by simp, by simp, ?_⟩
    exact hP g4 _ hW4 hk4 ((sz_dict (sz_lst a1 hw a3)).mono (by omega) (by omega))
  walk_at "ds"
  exact pv_excV V_NoTable (hP g4 _ hW4 hk4 ((sz_exc (x := "NoTable") (by decide +kernel) (by decide +kernel)).mono (by omega) (by omega)))
end Pr
set_option Elab.async false
set_option linter.all false
set_option autoImplicit false
set_option maxRecDepth 100000
set_option maxHeartbeats 4000000
set_option pp.maxSteps 500
namespace Pr
open PySem PySem.Spec PyProof.Rows L2 Dl
local macro_rules | `(tactic| walk_at "dl1") => `(tactic| first
  | ((with_reducible show PSt _ _ _ _ _ _); first
    | (with_reducible refine ps_seq ?_)
    | (with_reducible refine ps_ret ?_)
    | (with_reducible refine ps_if ?_)
    | (with_reducible refine ps_set ?_)
    | (with_reducible refine ps_next ?_)
    | (with_reducible refine ps_drop ?_))
  | ((with_reducible show PV _ _ _ _ _); first
    | ((with_reducible refine' pv_var ?k1 ?_); (case k1 => rfl))
    | (with_reducible refine pv_int ?_)
    | (with_reducible refine pv_str ?_)
    | (with_reducible refine pv_bl ?_)
    | (with_reducible refine pv_non ?_)
    | (with_reducible refine pv_and ?_)
    | (with_reducible refine pv_or ?_)
    | (with_reducible refine pv_not ?_)
    | (with_reducible refine pv_if ?_)
    | (with_reducible refine pv_op ?_)
    | (with_reducible refine pv_un ?_)
    | (with_reducible refine pv_chain ?_)
    | (with_reducible refine pv_tup ?_)
    | (with_reducible refine pv_lst2 ?_)
    | (with_reducible refine pv_call ?_)
    | (with_reducible refine pv_allT ?_)
    | (with_reducible refine pv_allS ?_)
    | (with_reducible refine pv_allR ?_)
    | (with_reducible refine pv_lcT ?_)
    | (with_reducible refine pv_lcL ?_)
    | (with_reducible refine pv_lcTF ?_)
    | (with_reducible refine pv_listRg2 ?_)
    | (with_reducible refine pv_cb ?_)
    | (with_reducible refine pv_sl ?_)
    | ((with_reducible refine' pv_const ?k1 ?_); (case k1 => assumption))
    | ((with_reducible refine' pv_constR ?k1 ?_); (case k1 => assumption))
    | (with_reducible refine pv_raw ?_))
  | ((with_reducible show O2 _ _ _ _ _ _); first
    | (with_reducible refine o_add ?_)
    | (with_reducible refine o_ii ?_)
    | (with_reducible refine o_ib ?_)
    | (with_reducible refine o_le ?_)
    | (with_reducible refine o_lt ?_)
    | (with_reducible refine o_eqI ?_)
    | (with_reducible refine o_neI ?_)
    | (with_reducible refine o_eqS ?_)
    | (with_reducible refine o_eqB ?_)
    | (with_reducible refine o_neB ?_)
    | (with_reducible refine o_leS ?_)
    | (with_reducible refine o_inS ?_)
    | ((with_reducible refine' o_isN ?k1 ?_); (case k1 => rfl))
    | ((with_reducible refine' o_notN ?k1 ?_); (case k1 => rfl))
    | (with_reducible refine o_isntB ?_)
    | ((with_reducible refine' o_ixT ?k1 ?_); (case k1 => first | exact at0 | exact at1 | exact atI_nat (j := 2) rfl | exact atI_nat (j := 3) rfl | exact atI_nat (j := 4) rfl | exact atI_nat (j := 5) rfl | exact atI_nat (j := 6) rfl | rfl)))
  | ((with_reducible show OC _ _ _ _ _); first
    | (with_reducible refine oc_isi (isT_int _) ?_)
    | (with_reducible refine oc_isi (isT_bool _) ?_)
    | (with_reducible refine oc_isi (isT_str _) ?_)
    | (with_reducible refine oc_isi (isT_tuple _) ?_)
    | (with_reducible refine oc_isi (isT_list _) ?_)
    | (with_reducible refine oc_lenT ?_)
    | (with_reducible refine oc_lenL ?_)
    | (with_reducible refine oc_lenR ?_)
    | ((with_reducible refine oc_lenS ?k1 ?_); (case k1 => assumption)))
  | ((with_reducible show PAs _ _ _ _ _); first
    | (with_reducible refine pas_nil ?_)
    | (with_reducible refine pas_cons ?_))
  | ((with_reducible show PB _ _ _ _ _); first
    | (with_reducible refine pb_test' ?_)
    | (with_reducible refine pb_B ?_)
    | (with_reducible refine pb_and ?_)
    | (with_reducible refine pb_or ?_)
    | (with_reducible refine pb_not ?_))
  | ((with_reducible show PPart _ _ _ _ _); first
    | (with_reducible refine pp_none ?_)
    | (with_reducible refine pp_some ?_))
  | ((with_reducible show OSl _ _ _ _ _ _ _); first
    | (with_reducible refine os_tup ?_))
  | ((with_reducible refine ite_t ?k1 ?_); (case k1 => rfl))
  | ((with_reducible refine ite_f ?k1 ?_); (case k1 => rfl))
  | ((with_reducible refine use_FJ ?k1 ?_); (case k1 => first | rfl | assumption))
  | (with_reducible refine use_is_between ?_)
  | (with_reducible refine use_is_tuple_of ?_)
  | (refine Or.inl (Exists.intro _ (And.intro rfl (And.intro (le_line (Nat.le_of_ble_eq_true rfl)) ?_))))
  | (refine Or.inr (Exists.intro _ (And.intro rfl (And.intro (le_line (Nat.le_of_ble_eq_true rfl)) ?_))))
  | (with_reducible refine Exists.intro _ (And.intro rfl ?_))
  | ((with_reducible refine And.intro ?k1 ?_); (case k1 => exact le_line (Nat.le_of_ble_eq_true rfl))))
local macro_rules | `(tactic| walk_at "dl") => `(tactic| repeat walk_at "dl1")
variable {P : Program} {w : World} {K : PySem.W.Frag} {mg : Str → Option Value} {base : Heap}
theorem ok__law_nodes0 {f : Addr} {fd : FuncData} (F : Fun K "_law_nodes" "_law_nodes" s__law_nodes f fd) : FnOk P w K mg base CX0 1 f fd ["_law_thing"] (SpF K (F_nodes 0)) := by
  refine F.ok sc__law_nodes (fun vs H Q E h => ?_) (fun cdv A outer s H vs Q E hr h => ?_)
  · exact lenF h fun c g es P h => h.1
  · obtain ⟨c, I, g, es, P, rfl, ok, r, ⟨-, d, -, -, hd, -⟩, k⟩ := h
    exact absurd hd (Nat.not_lt_zero _)
theorem ok__law_nodes {f : Addr} {fd : FuncData} (F : Fun K "_law_nodes" "_law_nodes" s__law_nodes f fd)  {k0 : Nat} (B : Blt mg) {f__law_nodes : Addr} {fd__law_nodes : FuncData} {ps__law_nodes : List Str} (D__law_nodes : L2.Def P w K mg base (k0+1) "_law_nodes" f__law_nodes fd__law_nodes ps__law_nodes (SpF K (F_nodes k0)))  : FnOk P w K mg base CX0 (k0+2) f fd ["_law_thing"] (SpF K (F_nodes (k0+1))) := by
  refine F.ok sc__law_nodes (fun vs H Q E h => ?_) (fun cdv A outer s H vs Q E hr h => ?_)
  · exact lenF h fun c g es P h => h.1
  obtain ⟨c, I, g, es, P, rfl, ok, r, hF, k⟩ := h
  have nd := sc__law_nodes.nd
  have hu := hr.units
  have hu1 := hu_of hr
  refine ⟨_, (pss_cons (L2.ps_if (pt_val (pe_callB (cr_isi (K := c.K)) (by rfl) B.isinstance_ (by decide +kernel) (pa_cons (pv 0) (pa_cons (pe_bltn (v := .ty "tuple") (by rfl) B.tuple_ PyProof.Rows.boot_tuple rfl) pa_nil)))) (pss_one (L2.ps_ret (pe_op (op_zadd (K := c.K)) pe_int (pe_callB (cr_sumZ (K := c.K) rfl) (by rfl) B.sum_ (by decide +kernel) (pa_cons (pe_lc (own := [("_law_item", 1)]) (g := gName 1) (tt := tYes) rfl nd (pi_tupZ (K := c.K) (pv 0)) (blkOk_by (N := ["_law_thing", "_law_item"]) (sc := defScope s__law_nodes) (by decide +kernel)) (fun _ _ _ _ _ => pg_name (i := 1) nd rfl (Or.inl rfl)) (fun _ _ _ _ _ => pts_nil) (fun _ _ _ _ _ => (pe_call D__law_nodes.ok (hr.mono (by first | decide | omega)) rfl D__law_nodes.at_ D__law_nodes.kp D__law_nodes.bd .nil pass0 (pa_cons (pv 1) pa_nil)))) pa_nil))))) pss_nil)
      (pss_one (L2.ps_ret pe_int))), body_run ok r k ?_⟩
  obtain ⟨-, d, rfl, hw, hd, hP⟩ := hF
  walk_at "dl"
  refine ite_b (fun hb => ?_) (fun hb => ?_)
  · cases d with
    | tuple ds =>
      have hw' : PyData.weightAll ds ≤ 1000 := hw
      have hl := wAll_len ds
      walk_at "dl"
      refine ⟨by simp, by omega, fun d => .int (nodes d), fun x hx => ?_, ?_⟩
      · walk_at "dl"
        refine ⟨rfl, x, rfl, by have := wAll_mem hx; omega, ?_, rfl, rfl⟩
        have h1 : x.depth ≤ PyData.depthAll ds := depth_mem hx
        simp only [PyData.depth] at hd
        omega
      · have e : (ds.map fun d => PyData.int (nodes d)) = (ds.map nodes).map .int := by rw [List.map_map]; rfl
        walk_at "dl"
        rw [e]
        refine oc_sum ?_
        walk_at "dl"
        rw [nodes, nodesAll_sum] at hP
        exact hP
    | _ => cases hb
  · have e : nodes d = 1 := by cases d <;> first | (simp [nodes]; done) | (cases hb)
    walk_at "dl"
    rw [e] at hP
    exact hP
end Pr
set_option Elab.async false
set_option linter.all false
set_option autoImplicit false
set_option maxRecDepth 100000
set_option maxHeartbeats 4000000
set_option pp.maxSteps 500
namespace Pr
open PySem PySem.Spec PyProof.Rows L2 Dl
local macro_rules | `(tactic| walk_at "ds1") => `(tactic| first
  | ((with_reducible show PSt _ _ _ _ _ _); first
    | (with_reducible refine ps_seq ?_)
    | (with_reducible refine ps_ret ?_)
    | (with_reducible refine ps_if ?_)
    | (with_reducible refine ps_set ?_)
    | (with_reducible refine ps_next ?_)
    | (with_reducible refine ps_drop ?_)
    | (with_reducible refine ps_setix ?_))
  | ((with_reducible show PV _ _ _ _ _); first
    | ((with_reducible refine' pv_var ?k1 ?_); (case k1 => rfl))
    | (with_reducible refine pv_int ?_)
    | (with_reducible refine pv_str ?_)
    | (with_reducible refine pv_bl ?_)
    | (with_reducible refine pv_non ?_)
    | (with_reducible refine pv_and ?_)
    | (with_reducible refine pv_or ?_)
    | (with_reducible refine pv_not ?_)
    | (with_reducible refine pv_if ?_)
    | (with_reducible refine pv_op ?_)
    | (with_reducible refine pv_un ?_)
    | (with_reducible refine pv_chain ?_)
    | (with_reducible refine pv_tup ?_)
    | (with_reducible refine pv_call ?_)
    | (with_reducible refine pv_allT ?_)
    | (with_reducible refine pv_allS ?_)
    | (with_reducible refine pv_allR ?_)
    | (with_reducible refine pv_lcT ?_)
    | (with_reducible refine pv_lcL ?_)
    | (with_reducible refine pv_lcTF ?_)
    | (with_reducible refine pv_listRg2 ?_)
    | (with_reducible refine pv_cb ?_)
    | (with_reducible refine pv_sl ?_)
    | (with_reducible refine pv_dget ?_)
    | ((with_reducible refine' pv_const ?k1 ?_); (case k1 => assumption))
    | (with_reducible refine pv_raw ?_))
  | ((with_reducible show O2 _ _ _ _ _ _); first
    | (with_reducible refine o_add ?_)
    | ((with_reducible refine' o_iic ?k1 ?_); (case k1 => first | (show (0 : Int) < _; first | decide | assumption | omega) | exact Or.inr ⟨by decide, by decide⟩ | exact Or.inl ⟨by decide, by decide⟩))
    | (with_reducible refine o_ii ?_)
    | (with_reducible refine o_ib ?_)
    | (with_reducible refine o_le ?_)
    | (with_reducible refine o_lt ?_)
    | (with_reducible refine o_eqI ?_)
    | (with_reducible refine o_neI ?_)
    | (with_reducible refine o_eqS ?_)
    | (with_reducible refine o_eqB ?_)
    | (with_reducible refine o_neB ?_)
    | (with_reducible refine o_leS ?_)
    | (with_reducible refine o_inS ?_)
    | ((with_reducible refine' o_isN ?k1 ?_); (case k1 => rfl))
    | ((with_reducible refine' o_notN ?k1 ?_); (case k1 => rfl))
    | (with_reducible refine o_isntB ?_)
    | ((with_reducible refine' o_ixM ?k1 ?k2 ?_); (case k1 => first | assumption | exact put_same); (case k2 => first | exact at0 | exact at1 | exact atI_nat (j := 2) rfl | exact atI_nat (j := 3) rfl | exact atI_nat (j := 4) rfl))
    | ((with_reducible refine' o_ixT ?k1 ?_); (case k1 => first | exact at0 | exact at1 | exact atI_nat (j := 2) rfl | exact atI_nat (j := 3) rfl | exact atI_nat (j := 4) rfl | exact atI_nat (j := 5) rfl | exact atI_nat (j := 6) rfl | rfl)))
  | ((with_reducible show OC _ _ _ _ _); first
    | (with_reducible refine oc_isi (isT_int _) ?_)
    | (with_reducible refine oc_isi (isT_bool _) ?_)
    | (with_reducible refine oc_isi (isT_str _) ?_)
    | (with_reducible refine oc_isi (isT_tuple _) ?_)
    | (with_reducible refine oc_isi (isT_list _) ?_)
    | (with_reducible refine oc_lenT ?_)
    | (with_reducible refine oc_lenL ?_)
    | (with_reducible refine oc_lenR ?_)
    | (with_reducible refine oc_int ?_)
    | (with_reducible refine oc_abs ?_)
    | ((with_reducible refine oc_lenS ?k1 ?_); (case k1 => assumption)))
  | ((with_reducible show PAs _ _ _ _ _); first
    | (with_reducible refine pas_nil ?_)
    | (with_reducible refine pas_cons ?_))
  | ((with_reducible show PB _ _ _ _ _); first
    | (with_reducible refine pb_test' ?_)
    | (with_reducible refine pb_B ?_)
    | (with_reducible refine pb_and ?_)
    | (with_reducible refine pb_or ?_)
    | (with_reducible refine pb_not ?_))
  | ((with_reducible show PPart _ _ _ _ _); first
    | (with_reducible refine pp_none ?_)
    | (with_reducible refine pp_some ?_))
  | ((with_reducible show O1 _ _ _ _ _); first
    | (with_reducible refine o_neg ?_))
  | ((with_reducible show OSl _ _ _ _ _ _ _); first
    | (with_reducible refine os_lst ?_)
    | (with_reducible refine os_tup ?_))
  | ((with_reducible refine ite_t ?k1 ?_); (case k1 => rfl))
  | ((with_reducible refine ite_f ?k1 ?_); (case k1 => rfl))
  | ((with_reducible refine use_FJ ?k1 ?_); (case k1 => first | rfl | assumption))
  | (with_reducible refine use_is_between ?_)
  | (with_reducible refine use_is_tuple_of ?_)
  | (refine Or.inl (Exists.intro _ (And.intro rfl (And.intro (le_line (Nat.le_of_ble_eq_true rfl)) ?_))))
  | (refine Or.inr (Exists.intro _ (And.intro rfl (And.intro (le_line (Nat.le_of_ble_eq_true rfl)) ?_))))
  | (with_reducible refine Exists.intro _ (And.intro rfl ?_))
  | ((with_reducible refine And.intro ?k1 ?_); (case k1 => exact le_line (Nat.le_of_ble_eq_true rfl))))
local macro_rules | `(tactic| walk_at "ds") => `(tactic| repeat walk_at "ds1")
variable {P : Program} {w : World} {K : PySem.W.Frag} {mg : Str → Option Value} {base : Heap}
theorem ok__law_changed {f : Addr} {fd : FuncData} (F : Fun K "_law_changed" "_law_changed" s__law_changed f fd)   (B : Blt mg) {f__law_draw : Addr} {fd__law_draw : FuncData} {ps__law_draw : List Str} (D__law_draw : L2.Def P w K mg base 3 "_law_draw" f__law_draw fd__law_draw ps__law_draw (SpF K FW_draw)) {f__law_any : Addr} {fd__law_any : FuncData} {ps__law_any : List Str} (D__law_any : L2.Def P w K mg base 8 "_law_any" f__law_any fd__law_any ps__law_any (SpF K (FW_any 3)))  : FnOk P w K mg base CX0 9 f fd ["_law_thing", "_law_well_here"] (SpF K FW_changed) := by
  refine F.ok sc__law_changed (fun vs H Q E h => ?_) (fun cdv A outer s H vs Q E hr h => ?_)
  · exact lenF h fun c g es P h => h.1
  obtain ⟨I, g, es, P, ok, r, hF, k⟩ := spFL h
  have nd := sc__law_changed.nd
  have hu := hr.units
  have hu1 := hu_of hr
  refine ⟨_, (pss_cons (L2.ps_set (i := 2) nd rfl (by first | exact Or.inl rfl | exact Or.inr rfl | exact Or.inr (Or.inl rfl)) (pe_call D__law_draw.ok (hr.mono (by first | decide | omega)) rfl D__law_draw.at_ D__law_draw.kp D__law_draw.bd .nil pass0 (pa_cons (pv 1) (pa_cons pe_int pa_nil))))
      (pss_cons (L2.ps_if (pt_cmpR (op_zeq (K := (sC K).K) hu) (pv 2) pe_int (nomark _)) (pss_one (L2.ps_ret (pe_call D__law_any.ok (hr.mono (by first | decide | omega)) rfl D__law_any.at_ D__law_any.kp D__law_any.bd .nil pass0 (pa_cons (pv 1) (pa_cons pe_int pa_nil))))) pss_nil)
      (pss_cons (L2.ps_if (PW.pt (pw_or (pt_val (pe_callB (cr_isi (K := (sC K).K)) (by rfl) B.isinstance_ (by decide +kernel) (pa_cons (pv 0) (pa_cons (pe_bltn (v := .ty "bool") (by rfl) B.bool_ PyProof.Rows.boot_bool rfl) pa_nil)))) (pw_or1 (pt_cmpR op_isN (pv 0) pe_non (nomark _))))) (pss_one (L2.ps_ret (pe_ix (ix_z (K := (sC K).K) (w := w)) (pe_lst (pa_cons pe_int (pa_cons pe_int (pa_cons (pe_tup pa_nil) (pa_cons pe_str (pa_cons (pe_tup (pa_cons pe_int (pa_cons pe_int pa_nil))) (pa_cons (pe_lst pa_nil) (pa_cons (pe_tup (pa_cons pe_non pa_nil)) pa_nil)))))))) (pe_op op_sub (pv 2) pe_int) (fun _ _ => rfl)))) pss_nil)
      (pss_cons (L2.ps_if (pt_val (pe_callB (cr_isi (K := (sC K).K)) (by rfl) B.isinstance_ (by decide +kernel) (pa_cons (pv 0) (pa_cons (pe_bltn (v := .ty "int") (by rfl) B.int_ PyProof.Rows.boot_int rfl) pa_nil)))) (pss_one (L2.ps_ret (pe_ix (ix_z (K := (sC K).K) (w := w)) (pe_lst (pa_cons (pe_op (op_zadd (K := (sC K).K)) (pv 0) pe_int) (pa_cons (pe_op op_sub (pv 0) pe_int) (pa_cons (pe_un un_neg (pv 0)) (pa_cons (pe_cmpR op_ge (pv 0) pe_int (nomark _)) (pa_cons pe_int (pa_cons pe_non (pa_cons (pe_tup (pa_cons (pv 0) pa_nil)) pa_nil)))))))) (pe_op op_sub (pv 2) pe_int) (fun _ _ => rfl)))) pss_nil)
      (pss_cons (L2.ps_if (pt_val (pe_callB (cr_isi (K := (sC K).K)) (by rfl) B.isinstance_ (by decide +kernel) (pa_cons (pv 0) (pa_cons (pe_bltn (v := .ty "str") (by rfl) B.str_ PyProof.Rows.boot_str rfl) pa_nil)))) (pss_one (L2.ps_ret (pe_ix (ix_z (K := (sC K).K) (w := w)) (pe_lst (pa_cons (pe_op (op_zadd (K := (sC K).K)) (pv 0) pe_str) (pa_cons (pe_slice (sl_z (K := (sC K).K)) (pv 0) (po_some pe_int) po_none) (pa_cons (pe_bm0 PySem.F.plainAttrs_str PySem.F.slot_str_upper PySem.F.type_str_upper mt_upper (pv 0)) (pa_cons (pe_op (op_zadd (K := (sC K).K)) pe_str (pv 0)) (pa_cons pe_str (pa_cons (pe_op (op_zadd (K := (sC K).K)) (pv 0) pe_str) (pa_cons (pe_lst (pa_cons (pv 0) pa_nil)) pa_nil)))))))) (pe_op op_sub (pv 2) pe_int) (fun _ _ => rfl)))) pss_nil)
      (pss_cons (L2.ps_if (pt_val (pe_callB (cr_isi (K := (sC K).K)) (by rfl) B.isinstance_ (by decide +kernel) (pa_cons (pv 0) (pa_cons (pe_bltn (v := .ty "tuple") (by rfl) B.tuple_ PyProof.Rows.boot_tuple rfl) pa_nil)))) (pss_cons (L2.ps_set (i := 3) nd rfl (by first | exact Or.inl rfl | exact Or.inr rfl | exact Or.inr (Or.inl rfl)) (pe_lst (pa_cons (pe_slice (sl_z (K := (sC K).K)) (pv 0) (po_some pe_int) po_none) (pa_cons (pe_slice (sl_z (K := (sC K).K)) (pv 0) po_none (po_some (pe_un un_neg pe_int))) (pa_cons (pe_op (op_zadd (K := (sC K).K)) (pe_slice (sl_z (K := (sC K).K)) (pv 0) (po_some pe_int) po_none) (pe_slice (sl_z (K := (sC K).K)) (pv 0) po_none (po_some pe_int))) (pa_cons (pe_op (op_zadd (K := (sC K).K)) (pe_slice (sl_z (K := (sC K).K)) (pv 0) po_none (po_some pe_int)) (pv 0)) (pa_cons (pe_op (op_zadd (K := (sC K).K)) (pv 0) (pe_tup (pa_cons pe_non pa_nil))) (pa_cons (pe_callTy (cr_list (K := (sC K).K)) (by rfl) B.list_ PyProof.Rows.boot_list (pa_cons (pv 0) pa_nil)) (pa_cons pe_non pa_nil)))))))))
      (pss_one (L2.ps_ret (pe_ix (ix_z (K := (sC K).K) (w := w)) (pv 3) (pe_op op_sub (pv 2) pe_int) (fun _ _ => rfl))))) pss_nil)
      (pss_one (L2.ps_ret (pv 0))))))))), body_run ok r k ?_⟩
  obtain ⟨p, d, rfl, hW, hB, hw, hP⟩ := hF
  have hB2 := okL_512 hB
  refine Dl.ps_seq (Dl.ps_set ?_)
  walk_at "ds"
  refine use_FL rfl ⟨p, _, rfl, by decide, by decide, hW, fun g1 k hW1 hk1 k0 k1 => ?_⟩
  walk_at "ds"
  refine ite_b (fun hb => ?_) (fun hb => ?_)
  · walk_at "ds"
    exact use_FL rfl ⟨p, _, rfl, by decide, by decide, hW1, fun g3 e hW3 hk3 he => hP g3 e hW3 (hk1.trans hk3) (spl_any he (by decide) (by decide))⟩
  have hb0 := of_decide_eq_false hb
  have at7 : ∀ {xs : List PyData}, xs.length = 7 → ∃ x, atI xs (k - 1) = some x ∧ x ∈ xs := fun e => atI_some (by omega) (by omega)
  cases d with
  | none =>
    walk_at "ds"
    refine pv_lst2 ?_
    walk_at "ds"
    refine pv_lst2 ?_
    walk_at "ds"
    obtain ⟨x, hx, hm⟩ := at7 (xs := [PyData.int 0, .int 1, .tuple [], .str "", .tuple [.int 0, .int 0], .list [], .tuple [.none]]) rfl
    refine o_ixL hx ?_
    refine hP g1 x hW1 hk1 (spl_flat ?_)
    simp only [List.mem_cons, List.not_mem_nil, or_false] at hm
    rcases hm with rfl | rfl | rfl | rfl | rfl | rfl | rfl <;> exact ⟨by decide +kernel, by decide +kernel, by decide +kernel⟩
  | bool b =>
    walk_at "ds"
    refine pv_lst2 ?_
    walk_at "ds"
    refine pv_lst2 ?_
    walk_at "ds"
    obtain ⟨x, hx, hm⟩ := at7 (xs := [PyData.int 0, .int 1, .tuple [], .str "", .tuple [.int 0, .int 0], .list [], .tuple [.none]]) rfl
    refine o_ixL hx ?_
    refine hP g1 x hW1 hk1 (spl_flat ?_)
    simp only [List.mem_cons, List.not_mem_nil, or_false] at hm
    rcases hm with rfl | rfl | rfl | rfl | rfl | rfl | rfl <;> exact ⟨by decide +kernel, by decide +kernel, by decide +kernel⟩
  | int i =>
    obtain ⟨i0, i1⟩ := okL_int.mp hB
    simp only [B5] at i0 i1
    walk_at "ds"
    refine pv_lst2 ?_
    walk_at "ds"
    obtain ⟨x, hx, hm⟩ := at7 (xs := [PyData.int (i + 1), .int (i - 1), .int (-i), .bool (decide (1 ≤ i)), .int 0, .none, .tuple [.int i]]) rfl
    refine o_ixL hx ?_
    refine hP g1 x hW1 hk1 ?_
    simp only [List.mem_cons, List.not_mem_nil, or_false] at hm
    rcases hm with rfl | rfl | rfl | rfl | rfl | rfl | rfl
    · exact spl_int (by omega) (by omega)
    · exact spl_int (by omega) (by omega)
    · exact spl_int (by omega) (by omega)
    · exact spl_flat (sz_bool.mono (by decide) (by decide))
    · exact spl_int (by omega) (by omega)
    · exact spl_flat (sz_none.mono (by decide) (by decide))
    · refine spl_any (sz_tup (W := 41) (D := 0) ?_ ?_ ?_) (by decide) (by decide)
      · intro y m; rcases List.mem_singleton.mp m with rfl; exact hB2
      · have := w_int (a := i) (by omega) (by omega); simp only [PyData.weightAll]; omega
      · intro y m; rcases List.mem_singleton.mp m with rfl; simp [PyData.depth]
  | str z =>
    have hz := okL_str.mp hB
    have hl : z.length ≤ 1000 := hw
    walk_at "ds"
    refine pv_lst2 ?_
    walk_at "ds"
    refine o_addS (le_line (by have : Str.length "a" = 1 := by decide +kernel
                               omega)) ?_
    walk_at "ds"
    refine os_str (le_line (by omega)) ?_
    walk_at "ds"
    refine pv_upper ?_
    walk_at "ds"
    refine ⟨by omega, ?_⟩
    walk_at "ds"
    refine o_addS (le_line (by have : Str.length " " = 1 := by decide +kernel
                               omega)) ?_
    walk_at "ds"
    refine o_addS (le_line (by have : Str.length "\n" = 1 := by decide +kernel
                               omega)) ?_
    walk_at "ds"
    refine pv_lst2 ?_
    walk_at "ds"
    obtain ⟨x, hx, hm⟩ := at7 (xs := [PyData.str (z ++ "a"), .str (cutS z (some 1) none), .str (Txt.upper z), .str (" " ++ z), .str "", .str (z ++ "\n"), .list [.str z]]) rfl
    refine o_ixL hx ?_
    refine hP g1 x hW1 hk1 ?_
    simp only [List.mem_cons, List.not_mem_nil, or_false] at hm
    have l1 : Str.length "a" = 1 := by decide +kernel
    have l2 : Str.length " " = 1 := by decide +kernel
    have l3 : Str.length "\n" = 1 := by decide +kernel
    rcases hm with rfl | rfl | rfl | rfl | rfl | rfl | rfl
    · exact spl_str (asci_app hz (by decide +kernel)) (by rw [len_app, l1]; omega)
    · exact spl_str (asci_cut hz) (by have := len_cut (x := z) (lo := some 1) (hi := none); omega)
    · exact spl_str (asci_upper hz) (by have := len_upper z; omega)
    · exact spl_str (asci_app (by decide +kernel) hz) (by rw [len_app, l2]; omega)
    · exact spl_flat ⟨by decide +kernel, by decide +kernel, by decide +kernel⟩
    · exact spl_str (asci_app hz (by decide +kernel)) (by rw [len_app, l3]; omega)
    · refine ⟨okL_lst.mpr ?_, ?_, ?_⟩
      · intro y m; rcases List.mem_singleton.mp m with rfl; exact hB2
      · simp only [PyData.weight, PyData.weightAll]; omega
      · simp [PyData.depth, PyData.depthAll]
  | tuple xs =>
    have hx := okL_tup.mp hB2
    have hw' : PyData.weightAll xs ≤ 1000 := hw
    have hl := wAll_len xs
    have hc : ∀ lo hi, PyData.weightAll (cutD xs lo hi) ≤ PyData.weightAll xs := fun lo hi => wAll_cut
    have hcl : ∀ lo hi, (cutD xs lo hi).length ≤ xs.length := fun lo hi => cutD_len
    walk_at "ds"
    refine pv_lst2 ?_
    walk_at "ds"
    refine o_addT (le_line (by have := hcl (some 1) none; have := hcl none (some 1); omega)) ?_
    walk_at "ds"
    refine o_addT (le_line (by have := hcl none (some 1); omega)) ?_
    walk_at "ds"
    refine o_addT (le_line (by simp only [List.length_cons, List.length_nil]; omega)) ?_
    walk_at "ds"
    refine oc_listT ?_
    walk_at "ds"
    obtain ⟨x, hx7, hm⟩ := at7 (xs := [PyData.tuple (cutD xs (some 1) none), .tuple (cutD xs none (some (-1))), .tuple (cutD xs (some 1) none ++ cutD xs none (some 1)), .tuple (cutD xs none (some 1) ++ xs), .tuple (xs ++ [.none]), .list xs, .none]) rfl
    refine o_ixL hx7 ?_
    refine hP g1 x hW1 hk1 ?_
    have c1 := hc (some 1) none
    have c2 := hc none (some 1)
    have c3 := hc none (some (-1))
    simp only [List.mem_cons, List.not_mem_nil, or_false] at hm
    rcases hm with rfl | rfl | rfl | rfl | rfl | rfl | rfl
    · exact (spl_of hx (fun y m => .inl (mem_cut m)) (by omega)).1
    · exact (spl_of hx (fun y m => .inl (mem_cut m)) (by omega)).1
    · exact (spl_of hx (fun y m => .inl (by rcases List.mem_append.mp m with m | m <;> exact mem_cut m)) (by rw [wAll_append]; omega)).1
    · exact (spl_of hx (fun y m => .inl (by rcases List.mem_append.mp m with m | m; exact mem_cut m; exact m)) (by rw [wAll_append]; omega)).1
    · exact (spl_of hx (fun y m => by rcases List.mem_append.mp m with m | m; exact .inl m; exact .inr (List.mem_singleton.mp m)) (by rw [wAll_append]; simp only [PyData.weightAll, PyData.weight]; omega)).1
    · exact (spl_of hx (fun y m => .inl m) (by omega)).2
    · exact spl_flat (sz_none.mono (by decide) (by decide))
  | list xs =>
    walk_at "ds"
    exact hP g1 _ hW1 hk1 (spl_self hB2)
  | dict kvs =>
    walk_at "ds"
    exact hP g1 _ hW1 hk1 (spl_self hB2)
theorem ok__law_spoilt0 {f : Addr} {fd : FuncData} (F : Fun K "_law_spoilt" "_law_spoilt" s__law_spoilt f fd) : FnOk P w K mg base CX0 9 f fd ["_law_thing", "_law_at", "_law_well_here"] (SpF K (FW_spoilt 0)) := by
  refine F.ok sc__law_spoilt (fun vs H Q E h => ?_) (fun cdv A outer s H vs Q E hr h => ?_)
  · exact lenF h fun c g es P h => h.1
  · obtain ⟨I, g, es, P, ok, r, hF, k⟩ := spFL h
    obtain ⟨p, d, n, rfl, -, -, -, -, hd, -⟩ := hF
    exact absurd hd (Nat.not_lt_zero _)
theorem ok__law_spoilt {f : Addr} {fd : FuncData} (F : Fun K "_law_spoilt" "_law_spoilt" s__law_spoilt f fd)  {k0 : Nat} (B : Blt mg) {f__law_changed : Addr} {fd__law_changed : FuncData} {ps__law_changed : List Str} (D__law_changed : L2.Def P w K mg base 9 "_law_changed" f__law_changed fd__law_changed ps__law_changed (SpF K FW_changed)) {f__law_nodes : Addr} {fd__law_nodes : FuncData} {ps__law_nodes : List Str} (D__law_nodes : L2.Def P w K mg base 4 "_law_nodes" f__law_nodes fd__law_nodes ps__law_nodes (SpF K (F_nodes 3))) {f__law_spoilt : Addr} {fd__law_spoilt : FuncData} {ps__law_spoilt : List Str} (D__law_spoilt : L2.Def P w K mg base (k0+9) "_law_spoilt" f__law_spoilt fd__law_spoilt ps__law_spoilt (SpF K (FW_spoilt k0)))  : FnOk P w K mg base CX0 (k0+10) f fd ["_law_thing", "_law_at", "_law_well_here"] (SpF K (FW_spoilt (k0+1))) := by
  refine F.ok sc__law_spoilt (fun vs H Q E h => ?_) (fun cdv A outer s H vs Q E hr h => ?_)
  · exact lenF h fun c g es P h => h.1
  obtain ⟨I, g, es, P, ok, r, hF, k⟩ := spFL h
  have nd := sc__law_spoilt.nd
  have hu := hr.units
  have hu1 := hu_of hr
  refine ⟨_, (pss_cons (L2.ps_if (pt_cmpR (op_zeq (K := (sC K).K) hu) (pv 1) pe_int (nomark _)) (pss_one (L2.ps_ret (pe_call D__law_changed.ok (hr.mono (by first | decide | omega)) rfl D__law_changed.at_ D__law_changed.kp D__law_changed.bd .nil pass0 (pa_cons (pv 0) (pa_cons (pv 2) pa_nil))))) pss_nil)
      (pss_cons (L2.ps_set (i := 1) nd rfl (by first | exact Or.inl rfl | exact Or.inr rfl | exact Or.inr (Or.inl rfl)) (pe_op op_sub (pv 1) pe_int))
      (pss_cons (L2.ps_for PassesOwn.never rfl (pi_range1 rfl B.range_ (pa_cons (pe_callB (cr_len (K := (sC K).K)) (by rfl) B.len_ PySem.boot_len (pa_cons (pv 0) pa_nil)) pa_nil)) (pg_name (i := 3) nd rfl (by first | exact Or.inl rfl | exact Or.inr rfl)) (pss_cons (L2.ps_set (i := 4) nd rfl (by first | exact Or.inl rfl | exact Or.inr rfl | exact Or.inr (Or.inl rfl)) (pe_call D__law_nodes.ok (hr.mono (by first | decide | omega)) rfl D__law_nodes.at_ D__law_nodes.kp D__law_nodes.bd .nil pass0 (pa_cons (pe_ix (ix_z (K := (sC K).K) (w := w)) (pv 0) (pv 3) (fun _ _ => rfl)) pa_nil)))
      (pss_cons (L2.ps_if (pt_cmpR (op_zlt (K := (sC K).K) hu) (pv 1) (pv 4) (nomark _)) (pss_one (L2.ps_ret (pe_op (op_zadd (K := (sC K).K)) (pe_op (op_zadd (K := (sC K).K)) (pe_slice (sl_z (K := (sC K).K)) (pv 0) po_none (po_some (pv 3))) (pe_tup (pa_cons (pe_call D__law_spoilt.ok (hr.mono (by first | decide | omega)) rfl D__law_spoilt.at_ D__law_spoilt.kp D__law_spoilt.bd .nil pass0 (pa_cons (pe_ix (ix_z (K := (sC K).K) (w := w)) (pv 0) (pv 3) (fun _ _ => rfl)) (pa_cons (pv 1) (pa_cons (pv 2) pa_nil)))) pa_nil))) (pe_slice (sl_z (K := (sC K).K)) (pv 0) (po_some (pe_op (op_zadd (K := (sC K).K)) (pv 3) pe_int)) po_none)))) pss_nil)
      (pss_one (L2.ps_set (i := 1) nd rfl (by first | exact Or.inl rfl | exact Or.inr rfl | exact Or.inr (Or.inl rfl)) (pe_op op_sub (pv 1) (pv 4)))))))
      (pss_one (L2.ps_ret (pv 0)))))), body_run ok r k ?_⟩
  obtain ⟨p, d, n, rfl, hW, hB, hw, hd3, hd, n0, n1, hP⟩ := hF
  walk_at "ds"
  refine ite_b (fun hb => ?_) (fun hb => ?_)
  · walk_at "ds"
    exact use_FL rfl ⟨p, d, rfl, hW, hB, hw, fun g1 e hW1 hk1 he => hP g1 e hW1 hk1 he⟩
  have hn := of_decide_eq_false hb
  walk_at "ds"
  cases d with
  | tuple xs =>
    have hx := okL_tup.mp hB
    have hw' : PyData.weightAll xs ≤ 1000 := hw
    have hl := wAll_len xs
    refine Dl.ps_for (pit_rng1 ?_)
    walk_at "ds"
    refine ⟨by omega, by omega, fun (i : Nat) ρ2 (g2 : Store) => ∃ (m : Int) (e3 e4 : Option EV), ρ2 = [some (.d (.tuple xs)), some (.d (.int m)), some (.r (.ref p)), e3, e4] ∧ g2 = g ∧ 0 ≤ m ∧ m + nodesAll (xs.take i) = n - 1, ⟨_, _, _, rfl, rfl, by omega, by simp [nodesAll]⟩, ?_, ?_⟩
    · rintro i ρ2 g2 hi ⟨m, e3, e4, rfl, rfl, m0, hm⟩
      have hi' : i < xs.length := by omega
      have ea : atI xs (i : Int) = some xs[i] := atI_nat (List.getElem?_eq_getElem hi')
      have hmem : xs[i] ∈ xs := List.getElem_mem hi'
      have hdep : (xs[i]).depth ≤ PyData.depthAll xs := depth_mem hmem
      have hwm := wAll_mem hmem
      simp only [PyData.depth] at hd hd3
      simp only [Int.zero_add]
      walk_at "ds"
      refine o_ixT ea ?_
      walk_at "ds"
      refine ⟨rfl, xs[i], rfl, by omega, by omega, ?_⟩
      walk_at "ds"
      refine ite_b (fun hb => ?_) (fun hb => ?_)
      · have hb' := of_decide_eq_true hb
        walk_at "ds"
        refine o_ixT ea ?_
        walk_at "ds"
        refine use_FL rfl ⟨p, xs[i], m, rfl, hW, hx _ hmem, by omega, by omega, by omega, m0, hb', fun g3 e hW3 hk3 he => ?_⟩
        walk_at "ds"
        have h1 : (cutD xs none (some (i : Int))).length ≤ xs.length := cutD_len
        have h2 : (cutD xs (some ((i : Int) + 1)) none).length ≤ xs.length := cutD_len
        refine o_addT (le_line (by simp only [List.length_cons, List.length_nil]; omega)) ?_
        walk_at "ds"
        refine o_addT (le_line (by simp only [List.length_append, List.length_cons, List.length_nil]; omega)) ?_
        refine hP g3 _ hW3 hk3 ?_
        have e2 : ((i : Int) + 1) = ((i + 1 : Nat) : Int) := by omega
        rw [e2, cut_take, cut_drop, List.append_assoc, List.singleton_append]
        have k := spl_tup (xs := xs.take i) (ys := xs.drop (i + 1)) (x := xs[i]) (e := e) (fun y my => okL_512 (hx y (by rw [cut_at hi']; exact my))) he
        rw [← cut_at hi'] at k
        exact k
      · have hb' := of_decide_eq_false hb
        walk_at "ds"
        exact ⟨_, _, _, rfl, rfl, by omega, by rw [nodes_take hi']; omega⟩
    · rintro ρ2 g2 ⟨m, e3, e4, rfl, rfl, m0, hm⟩
      have en : nodes (.tuple xs) = 1 + nodesAll xs := by rw [nodes]
      rw [en] at n1
      simp only [Int.toNat_natCast, List.take_length] at hm
      omega
  | none => simp [nodes] at n1; omega
  | bool b => simp [nodes] at n1; omega
  | int i => simp [nodes] at n1; omega
  | str z => simp [nodes] at n1; omega
  | list zs => simp [nodes] at n1; omega
  | dict kvs => simp [nodes] at n1; omega
end Pr
set_option Elab.async false
set_option linter.all false
set_option autoImplicit false
set_option maxRecDepth 100000
set_option maxHeartbeats 4000000
set_option pp.maxSteps 500
namespace Pr
open PySem PySem.Spec PyProof.Rows L2 Dl
local macro_rules | `(tactic| walk_at "dl1") => `(tactic| first
  | ((with_reducible show PSt _ _ _ _ _ _); first
    | (with_reducible refine ps_seq ?_)
    | (with_reducible refine ps_ret ?_)
    | (with_reducible refine ps_if ?_)
    | (with_reducible refine ps_set ?_)
    | (with_reducible refine ps_next ?_)
    | (with_reducible refine ps_drop ?_))
  | ((with_reducible show PV _ _ _ _ _); first
    | ((with_reducible refine' pv_var ?k1 ?_); (case k1 => rfl))
    | (with_reducible refine pv_int ?_)
    | (with_reducible refine pv_str ?_)
    | (with_reducible refine pv_bl ?_)
    | (with_reducible refine pv_non ?_)
    | (with_reducible refine pv_and ?_)
    | (with_reducible refine pv_or ?_)
    | (with_reducible refine pv_not ?_)
    | (with_reducible refine pv_if ?_)
    | (with_reducible refine pv_op ?_)
    | (with_reducible refine pv_un ?_)
    | (with_reducible refine pv_chain ?_)
    | (with_reducible refine pv_tup ?_)
    | (with_reducible refine pv_lst2 ?_)
    | (with_reducible refine pv_call ?_)
    | (with_reducible refine pv_allT ?_)
    | (with_reducible refine pv_allS ?_)
    | (with_reducible refine pv_allR ?_)
    | (with_reducible refine pv_lcT ?_)
    | (with_reducible refine pv_lcL ?_)
    | (with_reducible refine pv_lcTF ?_)
    | (with_reducible refine pv_listRg2 ?_)
    | (with_reducible refine pv_cb ?_)
    | (with_reducible refine pv_sl ?_)
    | ((with_reducible refine' pv_const ?k1 ?_); (case k1 => assumption))
    | ((with_reducible refine' pv_constR ?k1 ?_); (case k1 => assumption))
    | (with_reducible refine pv_raw ?_))
  | ((with_reducible show O2 _ _ _ _ _ _); first
    | (with_reducible refine o_add ?_)
    | (with_reducible refine o_ii ?_)
    | (with_reducible refine o_ib ?_)
    | (with_reducible refine o_le ?_)
    | (with_reducible refine o_lt ?_)
    | (with_reducible refine o_eqI ?_)
    | (with_reducible refine o_neI ?_)
    | (with_reducible refine o_eqS ?_)
    | (with_reducible refine o_eqB ?_)
    | (with_reducible refine o_neB ?_)
    | (with_reducible refine o_leS ?_)
    | (with_reducible refine o_inS ?_)
    | ((with_reducible refine' o_isN ?k1 ?_); (case k1 => rfl))
    | ((with_reducible refine' o_notN ?k1 ?_); (case k1 => rfl))
    | (with_reducible refine o_isntB ?_)
    | ((with_reducible refine' o_ixT ?k1 ?_); (case k1 => first | exact at0 | exact at1 | exact atI_nat (j := 2) rfl | exact atI_nat (j := 3) rfl | exact atI_nat (j := 4) rfl | exact atI_nat (j := 5) rfl | exact atI_nat (j := 6) rfl | rfl)))
  | ((with_reducible show OC _ _ _ _ _); first
    | (with_reducible refine oc_isi (isT_int _) ?_)
    | (with_reducible refine oc_isi (isT_bool _) ?_)
    | (with_reducible refine oc_isi (isT_str _) ?_)
    | (with_reducible refine oc_isi (isT_tuple _) ?_)
    | (with_reducible refine oc_isi (isT_list _) ?_)
    | (with_reducible refine oc_lenT ?_)
    | (with_reducible refine oc_lenL ?_)
    | (with_reducible refine oc_lenR ?_)
    | ((with_reducible refine oc_lenS ?k1 ?_); (case k1 => assumption)))
  | ((with_reducible show PAs _ _ _ _ _); first
    | (with_reducible refine pas_nil ?_)
    | (with_reducible refine pas_cons ?_))
  | ((with_reducible show PB _ _ _ _ _); first
    | (with_reducible refine pb_test' ?_)
    | (with_reducible refine pb_B ?_)
    | (with_reducible refine pb_and ?_)
    | (with_reducible refine pb_or ?_)
    | (with_reducible refine pb_not ?_))
  | ((with_reducible show PPart _ _ _ _ _); first
    | (with_reducible refine pp_none ?_)
    | (with_reducible refine pp_some ?_))
  | ((with_reducible show OSl _ _ _ _ _ _ _); first
    | (with_reducible refine os_tup ?_))
  | ((with_reducible refine ite_t ?k1 ?_); (case k1 => rfl))
  | ((with_reducible refine ite_f ?k1 ?_); (case k1 => rfl))
  | ((with_reducible refine use_FJ ?k1 ?_); (case k1 => first | rfl | assumption))
  | (with_reducible refine use_is_between ?_)
  | (with_reducible refine use_is_tuple_of ?_)
  | (refine Or.inl (Exists.intro _ (And.intro rfl (And.intro (le_line (Nat.le_of_ble_eq_true rfl)) ?_))))
  | (refine Or.inr (Exists.intro _ (And.intro rfl (And.intro (le_line (Nat.le_of_ble_eq_true rfl)) ?_))))
  | (with_reducible refine Exists.intro _ (And.intro rfl ?_))
  | ((with_reducible refine And.intro ?k1 ?_); (case k1 => exact le_line (Nat.le_of_ble_eq_true rfl))))
local macro_rules | `(tactic| walk_at "dl") => `(tactic| repeat walk_at "dl1")
variable {P : Program} {w : World} {K : PySem.W.Frag} {mg : Str → Option Value} {base : Heap}
theorem ok__law_count {f : Addr} {fd : FuncData} (F : Fun K "_law_count" "_law_count" s__law_count f fd)   (B : Blt mg)  : FnOk P w K mg base CX0 1 f fd ["_law_thing"] (SpF K F_is_int1) := by
  refine F.ok sc__law_count (fun vs H Q E h => ?_) (fun cdv A outer s H vs Q E hr h => ?_)
  · exact lenF h fun c g es P h => h.1
  obtain ⟨c, I, g, es, P, rfl, ok, r, hF, k⟩ := h
  have nd := sc__law_count.nd
  have hu := hr.units
  have hu1 := hu_of hr
  refine ⟨_, (pss_one (L2.ps_ret (pe_and (pe_callB (cr_isi (K := c.K)) (by rfl) B.isinstance_ (by decide +kernel) (pa_cons (pv 0) (pa_cons (pe_bltn (v := .ty "int") (by rfl) B.int_ PyProof.Rows.boot_int rfl) pa_nil))) (pe_and (pe_not (pe_callB (cr_isi (K := c.K)) (by rfl) B.isinstance_ (by decide +kernel) (pa_cons (pv 0) (pa_cons (pe_bltn (v := .ty "bool") (by rfl) B.bool_ PyProof.Rows.boot_bool rfl) pa_nil)))) (pe_one (pe_cmpR op_ge (pv 0) pe_int (nomark _))))))), body_run ok r k ?_⟩
  obtain ⟨-, d, rfl, hP⟩ := hF
  cases d <;> walk_at "dl" <;> exact hP
theorem ok__law_long {f : Addr} {fd : FuncData} (F : Fun K "_law_long" "_law_long" s__law_long f fd)   (B : Blt mg)  : FnOk P w K mg base CX0 1 f fd ["_law_thing", "_law_many"] (SpF K F_is_long) := by
  refine F.ok sc__law_long (fun vs H Q E h => ?_) (fun cdv A outer s H vs Q E hr h => ?_)
  · exact lenF h fun c g es P h => h.1
  obtain ⟨c, I, g, es, P, rfl, ok, r, hF, k⟩ := h
  have nd := sc__law_long.nd
  have hu := hr.units
  have hu1 := hu_of hr
  refine ⟨_, (pss_one (L2.ps_ret (pe_and (pe_callB (cr_isi (K := c.K)) (by rfl) B.isinstance_ (by decide +kernel) (pa_cons (pv 0) (pa_cons (pe_bltn (v := .ty "tuple") (by rfl) B.tuple_ PyProof.Rows.boot_tuple rfl) pa_nil))) (pe_one (pe_cmpR (op_zeq (K := c.K) hu) (pe_callB (cr_len (K := c.K)) (by rfl) B.len_ PySem.boot_len (pa_cons (pv 0) pa_nil)) (pv 1) (nomark _)))))), body_run ok r k ?_⟩
  obtain ⟨-, d, n, rfl, hP⟩ := hF
  cases d with
  | tuple ds =>
    walk_at "dl"
    exact fin hP rfl
  | _ => walk_at "dl" <;> exact hP
theorem ok__law_name_fits {f : Addr} {fd : FuncData} (F : Fun K "_law_name_fits" "_law_name_fits" s__law_name_fits f fd)   (B : Blt mg)  : FnOk P w K mg base CX0 1 f fd ["_law_thing"] (SpF K (FJ fit isName)) := by
  refine F.ok sc__law_name_fits (fun vs H Q E h => ?_) (fun cdv A outer s H vs Q E hr h => ?_)
  · exact lenF h fun c g es P h => h.1
  obtain ⟨c, I, g, es, P, rfl, ok, r, hF, k⟩ := h
  have nd := sc__law_name_fits.nd
  have hu := hr.units
  have hu1 := hu_of hr
  refine ⟨_, (pss_cons (L2.ps_if (PW.pt (pw_or (pt_not (pt_val (pe_callB (cr_isi (K := c.K)) (by rfl) B.isinstance_ (by decide +kernel) (pa_cons (pv 0) (pa_cons (pe_bltn (v := .ty "str") (by rfl) B.str_ PyProof.Rows.boot_str rfl) pa_nil))))) (pw_or (pt_cmpR (op_zlt (K := c.K) hu) (pe_callB (cr_len (K := c.K)) (by rfl) B.len_ PySem.boot_len (pa_cons (pv 0) pa_nil)) pe_int (nomark _)) (pw_or1 (pt_cmpR op_gt (pe_callB (cr_len (K := c.K)) (by rfl) B.len_ PySem.boot_len (pa_cons (pv 0) pa_nil)) pe_int (nomark _)))))) (pss_one (L2.ps_ret pe_bl)) pss_nil)
      (pss_one (L2.ps_ret (pe_callB (cr_allZ (K := c.K) rfl) (by rfl) B.all_ (by decide +kernel) (pa_cons (pe_lc (own := [("_law_sign", 1)]) (g := gName 1) (tt := tYes) rfl nd (pi_str (pv 0)) (blkOk_by (N := ["_law_thing", "_law_sign"]) (sc := defScope s__law_name_fits) (by decide +kernel)) (fun _ _ _ _ _ => pg_name (i := 1) nd rfl (Or.inl rfl)) (fun _ _ _ _ _ => pts_nil) (fun _ _ _ _ _ => (pe_cmpR op_zinS (pv 1) pe_str rfl))) pa_nil))))), body_run ok r k ?_⟩
  obtain ⟨-, d, rfl, hf, hP⟩ := hF
  cases d with
  | str x =>
    have hz : x.length ≤ sizeLine := le_line (fit_str.mp hf).1
    walk_at "dl"
    refine ite_b (fun h1 => ?_) (fun h1 => ?_)
    · have h1' := of_decide_eq_true h1
      walk_at "dl"
      have a1 : decide ((1 : Int) ≤ (x.length : Int)) = false := decide_eq_false (by omega)
      exact fin hP (by simp only [isName, a1, Bool.false_and])
    · have h1' := of_decide_eq_false h1
      walk_at "dl"
      refine ite_b (fun h2 => ?_) (fun h2 => ?_)
      · have h2' := of_decide_eq_true h2
        walk_at "dl"
        have a1 : decide ((x.length : Int) ≤ 8) = false := decide_eq_false (by omega)
        exact fin hP (by simp only [isName, a1, Bool.and_false, Bool.false_and])
      · have h2' := of_decide_eq_false h2
        walk_at "dl"
        have a1 : decide ((1 : Int) ≤ (x.length : Int)) = true := decide_eq_true (by omega)
        have a2 : decide ((x.length : Int) ≤ 8) = true := decide_eq_true (by omega)
        refine ⟨by simp, (fit_str.mp hf).1, fun n => decide (n ∈ lows.cps.toList), fun n hn => ?_, fin hP (by simp only [isName, a1, a2, Bool.true_and])⟩
        walk_at "dl"
        exact ⟨rfl, rfl⟩
  | _ =>
    walk_at "dl"
    exact fin hP rfl
theorem ok__law_text_fits {f : Addr} {fd : FuncData} (F : Fun K "_law_text_fits" "_law_text_fits" s__law_text_fits f fd)   (B : Blt mg)  : FnOk P w K mg base CX0 1 f fd ["_law_thing"] (SpF K (FJ fit isText)) := by
  refine F.ok sc__law_text_fits (fun vs H Q E h => ?_) (fun cdv A outer s H vs Q E hr h => ?_)
  · exact lenF h fun c g es P h => h.1
  obtain ⟨c, I, g, es, P, rfl, ok, r, hF, k⟩ := h
  have nd := sc__law_text_fits.nd
  have hu := hr.units
  have hu1 := hu_of hr
  refine ⟨_, (pss_one (L2.ps_ret (pe_and (pe_callB (cr_isi (K := c.K)) (by rfl) B.isinstance_ (by decide +kernel) (pa_cons (pv 0) (pa_cons (pe_bltn (v := .ty "str") (by rfl) B.str_ PyProof.Rows.boot_str rfl) pa_nil))) (pe_and (pe_cmpR op_zle (pe_callB (cr_len (K := c.K)) (by rfl) B.len_ PySem.boot_len (pa_cons (pv 0) pa_nil)) pe_int (nomark _)) (pe_one (pe_callB (cr_allZ (K := c.K) rfl) (by rfl) B.all_ (by decide +kernel) (pa_cons (pe_lc (own := [("_law_sign", 1)]) (g := gName 1) (tt := tYes) rfl nd (pi_str (pv 0)) (blkOk_by (N := ["_law_thing", "_law_sign"]) (sc := defScope s__law_text_fits) (by decide +kernel)) (fun _ _ _ _ _ => pg_name (i := 1) nd rfl (Or.inl rfl)) (fun _ _ _ _ _ => pts_nil) (fun _ _ _ _ _ => (pe_and (pe_cmpR op_zle pe_str (pv 1) (nomark _)) (pe_one (pe_cmpR op_zle (pv 1) pe_str (nomark _)))))) pa_nil))))))), body_run ok r k ?_⟩
  obtain ⟨-, d, rfl, hf, hP⟩ := hF
  walk_at "dl"
  refine ite_b (fun hb => ?_) (fun hb => ?_)
  · obtain ⟨x, rfl⟩ := str_of hb
    have hz : x.length ≤ sizeLine := le_line (fit_str.mp hf).1
    walk_at "dl"
    refine ite_b (fun h1 => ?_) (fun h1 => ?_)
    · walk_at "dl"
      refine ⟨by simp, (fit_str.mp hf).1, isSign, fun n hn => ?_, fin hP (by simp only [isText, h1, Bool.true_and])⟩
      walk_at "dl"
      rw [sign_lo]
      refine ite_b (fun h2 => ?_) (fun h2 => ?_)
      · walk_at "dl"
        refine ⟨?_, rfl⟩
        rw [sign_hi]
        simp only [isSign, h2, Bool.true_and]
      · refine ⟨?_, rfl⟩
        simp only [isSign, h2, Bool.false_and]
    · exact fin hP (by simp only [isText, h1, Bool.false_and])
  · exact fin hP (by cases d <;> first | rfl | cases hb)
theorem ok__law_client_fits {f : Addr} {fd : FuncData} (F : Fun K "_law_client_fits" "_law_client_fits" s__law_client_fits f fd)   {f__law_count : Addr} {fd__law_count : FuncData} {ps__law_count : List Str} (D__law_count : L2.Def P w K mg base 1 "_law_count" f__law_count fd__law_count ps__law_count (SpF K F_is_int1))  : FnOk P w K mg base CX0 2 f fd ["_law_thing"] (SpF K (FJ any' isClient)) := by
  refine F.ok sc__law_client_fits (fun vs H Q E h => ?_) (fun cdv A outer s H vs Q E hr h => ?_)
  · exact lenF h fun c g es P h => h.1
  obtain ⟨c, I, g, es, P, rfl, ok, r, hF, k⟩ := h
  have nd := sc__law_client_fits.nd
  have hu := hr.units
  have hu1 := hu_of hr
  refine ⟨_, (pss_one (L2.ps_ret (pe_and (pe_call D__law_count.ok (hr.mono (by first | decide | omega)) rfl D__law_count.at_ D__law_count.kp D__law_count.bd .nil pass0 (pa_cons (pv 0) pa_nil)) (pe_and (pe_cmpR op_zle pe_int (pv 0) (nomark _)) (pe_one (pe_cmpR op_zle (pv 0) pe_int (nomark _))))))), body_run ok r k ?_⟩
  obtain ⟨-, d, rfl, -, hP⟩ := hF
  walk_at "dl"
  refine ⟨rfl, d, rfl, ?_⟩
  cases d with
  | int i =>
    refine ⟨_, rfl, ?_⟩
    refine ite_b (fun hb => ?_) (fun hb => ?_)
    · walk_at "dl"
      refine ite_b (fun h1 => ?_) (fun h1 => ?_)
      · walk_at "dl"
        exact fin hP (by simp [isClient, isBtw, h1])
      · exact fin hP (by simp [isClient, isBtw, h1])
    · have hb' := of_decide_eq_false hb
      exact fin hP (by simp only [isClient, isBtw, Bool.and_eq_false_iff, decide_eq_false_iff_not]; left; omega)
  | _ => exact ⟨_, rfl, ite_f rfl hP⟩
theorem ok__law_pair_fits {f : Addr} {fd : FuncData} (F : Fun K "_law_pair_fits" "_law_pair_fits" s__law_pair_fits f fd)   {f__law_long : Addr} {fd__law_long : FuncData} {ps__law_long : List Str} (D__law_long : L2.Def P w K mg base 1 "_law_long" f__law_long fd__law_long ps__law_long (SpF K F_is_long)) {f__law_client_fits : Addr} {fd__law_client_fits : FuncData} {ps__law_client_fits : List Str} (D__law_client_fits : L2.Def P w K mg base 2 "_law_client_fits" f__law_client_fits fd__law_client_fits ps__law_client_fits (SpF K (FJ any' isClient))) {f__law_count : Addr} {fd__law_count : FuncData} {ps__law_count : List Str} (D__law_count : L2.Def P w K mg base 1 "_law_count" f__law_count fd__law_count ps__law_count (SpF K F_is_int1))  : FnOk P w K mg base CX0 3 f fd ["_law_thing"] (SpF K (FJ any' isPair)) := by
  refine F.ok sc__law_pair_fits (fun vs H Q E h => ?_) (fun cdv A outer s H vs Q E hr h => ?_)
  · exact lenF h fun c g es P h => h.1
  obtain ⟨c, I, g, es, P, rfl, ok, r, hF, k⟩ := h
  have nd := sc__law_pair_fits.nd
  have hu := hr.units
  have hu1 := hu_of hr
  refine ⟨_, (pss_one (L2.ps_ret (pe_and (pe_call D__law_long.ok (hr.mono (by first | decide | omega)) rfl D__law_long.at_ D__law_long.kp D__law_long.bd .nil pass0 (pa_cons (pv 0) (pa_cons pe_int pa_nil))) (pe_and (pe_call D__law_client_fits.ok (hr.mono (by first | decide | omega)) rfl D__law_client_fits.at_ D__law_client_fits.kp D__law_client_fits.bd .nil pass0 (pa_cons (pe_ix (ix_z (K := c.K) (w := w)) (pv 0) pe_int (fun _ _ => rfl)) pa_nil)) (pe_and (pe_call D__law_count.ok (hr.mono (by first | decide | omega)) rfl D__law_count.at_ D__law_count.kp D__law_count.bd .nil pass0 (pa_cons (pe_ix (ix_z (K := c.K) (w := w)) (pv 0) pe_int (fun _ _ => rfl)) pa_nil)) (pe_one (pe_cmpR op_ge (pe_ix (ix_z (K := c.K) (w := w)) (pv 0) pe_int (fun _ _ => rfl)) pe_int (nomark _)))))))), body_run ok r k ?_⟩
  obtain ⟨-, d, rfl, -, hP⟩ := hF
  walk_at "dl"
  refine ite_b (fun hb => ?_) (fun hb => ?_)
  · obtain ⟨x, y, rfl⟩ : ∃ x y, d = .tuple [x, y] := by
      cases d with
      | tuple ds =>
        obtain ⟨x, y, rfl⟩ := two_of_len (r := ds) (by have := of_decide_eq_true hb; first | exact this | omega)
        exact ⟨x, y, rfl⟩
      | _ => cases hb
    walk_at "dl"
    refine ite_b (fun h1 => ?_) (fun h1 => ?_)
    · walk_at "dl"
      refine ⟨rfl, y, rfl, ⟨_, rfl, ?_⟩⟩
      refine ite_b (fun h2 => ?_) (fun h2 => ?_)
      · obtain ⟨i, rfl, i0⟩ := count_of h2
        walk_at "dl"
        exact fin hP (by simp [isPair, h1, isNumber])
      · have h3 : isNumber y = false := by
          cases y <;> first | rfl | (simp only [isCount, isNumber, decide_eq_false_iff_not] at h2 ⊢; omega)
        exact fin hP (by simp [isPair, h1, h3])
    · exact fin hP (by simp [isPair, h1])
  · refine fin hP ?_
    unfold isPair
    split
    · exact absurd hb (by simp [isTupN])
    · rfl
theorem ok__law_edit_fits {f : Addr} {fd : FuncData} (F : Fun K "_law_edit_fits" "_law_edit_fits" s__law_edit_fits f fd)   (B : Blt mg) {f__law_text_fits : Addr} {fd__law_text_fits : FuncData} {ps__law_text_fits : List Str} (D__law_text_fits : L2.Def P w K mg base 1 "_law_text_fits" f__law_text_fits fd__law_text_fits ps__law_text_fits (SpF K (FJ fit isText))) {f__law_count : Addr} {fd__law_count : FuncData} {ps__law_count : List Str} (D__law_count : L2.Def P w K mg base 1 "_law_count" f__law_count fd__law_count ps__law_count (SpF K F_is_int1)) {f__law_name_fits : Addr} {fd__law_name_fits : FuncData} {ps__law_name_fits : List Str} (D__law_name_fits : L2.Def P w K mg base 1 "_law_name_fits" f__law_name_fits fd__law_name_fits ps__law_name_fits (SpF K (FJ fit isName))) {f__law_pair_fits : Addr} {fd__law_pair_fits : FuncData} {ps__law_pair_fits : List Str} (D__law_pair_fits : L2.Def P w K mg base 3 "_law_pair_fits" f__law_pair_fits fd__law_pair_fits ps__law_pair_fits (SpF K (FJ any' isPair)))  : FnOk P w K mg base CX0 4 f fd ["_law_thing"] (SpF K (FJ fit isEdit)) := by
  refine F.ok sc__law_edit_fits (fun vs H Q E h => ?_) (fun cdv A outer s H vs Q E hr h => ?_)
  · exact lenF h fun c g es P h => h.1
  obtain ⟨c, I, g, es, P, rfl, ok, r, hF, k⟩ := h
  have nd := sc__law_edit_fits.nd
  have hu := hr.units
  have hu1 := hu_of hr
  refine ⟨_, (pss_cons (L2.ps_if (PW.pt (pw_or (pt_not (pt_val (pe_callB (cr_isi (K := c.K)) (by rfl) B.isinstance_ (by decide +kernel) (pa_cons (pv 0) (pa_cons (pe_bltn (v := .ty "tuple") (by rfl) B.tuple_ PyProof.Rows.boot_tuple rfl) pa_nil))))) (pw_or (pt_cmpR (op_zeq (K := c.K) hu) (pe_callB (cr_len (K := c.K)) (by rfl) B.len_ PySem.boot_len (pa_cons (pv 0) pa_nil)) pe_int (nomark _)) (pw_or1 (pt_not (pt_val (pe_callB (cr_isi (K := c.K)) (by rfl) B.isinstance_ (by decide +kernel) (pa_cons (pe_ix (ix_z (K := c.K) (w := w)) (pv 0) pe_int (fun _ _ => rfl)) (pa_cons (pe_bltn (v := .ty "str") (by rfl) B.str_ PyProof.Rows.boot_str rfl) pa_nil))))))))) (pss_one (L2.ps_ret pe_bl)) pss_nil)
      (pss_cons (L2.ps_set (i := 1) nd rfl (by first | exact Or.inl rfl | exact Or.inr rfl | exact Or.inr (Or.inl rfl)) (pe_ix (ix_z (K := c.K) (w := w)) (pv 0) pe_int (fun _ _ => rfl)))
      (pss_cons (L2.ps_set (i := 2) nd rfl (by first | exact Or.inl rfl | exact Or.inr rfl | exact Or.inr (Or.inl rfl)) (pe_slice (sl_z (K := c.K)) (pv 0) (po_some pe_int) po_none))
      (pss_cons (L2.ps_if (pt_cmpR (op_zeq (K := c.K) hu) (pv 1) pe_str (nomark _)) (pss_one (L2.ps_ret (pe_and (pe_cmpR (op_zeq (K := c.K) hu) (pe_callB (cr_len (K := c.K)) (by rfl) B.len_ PySem.boot_len (pa_cons (pv 2) pa_nil)) pe_int (nomark _)) (pe_one (pe_call D__law_text_fits.ok (hr.mono (by first | decide | omega)) rfl D__law_text_fits.at_ D__law_text_fits.kp D__law_text_fits.bd .nil pass0 (pa_cons (pe_ix (ix_z (K := c.K) (w := w)) (pv 2) pe_int (fun _ _ => rfl)) pa_nil)))))) pss_nil)
      (pss_cons (L2.ps_if (pt_cmpR (op_zeq (K := c.K) hu) (pv 1) pe_str (nomark _)) (pss_one (L2.ps_ret (pe_and (pe_cmpR (op_zeq (K := c.K) hu) (pe_callB (cr_len (K := c.K)) (by rfl) B.len_ PySem.boot_len (pa_cons (pv 2) pa_nil)) pe_int (nomark _)) (pe_and (pe_call D__law_count.ok (hr.mono (by first | decide | omega)) rfl D__law_count.at_ D__law_count.kp D__law_count.bd .nil pass0 (pa_cons (pe_ix (ix_z (K := c.K) (w := w)) (pv 2) pe_int (fun _ _ => rfl)) pa_nil)) (pe_and (pe_call D__law_count.ok (hr.mono (by first | decide | omega)) rfl D__law_count.at_ D__law_count.kp D__law_count.bd .nil pass0 (pa_cons (pe_ix (ix_z (K := c.K) (w := w)) (pv 2) pe_int (fun _ _ => rfl)) pa_nil)) (pe_one (pe_call D__law_text_fits.ok (hr.mono (by first | decide | omega)) rfl D__law_text_fits.at_ D__law_text_fits.kp D__law_text_fits.bd .nil pass0 (pa_cons (pe_ix (ix_z (K := c.K) (w := w)) (pv 2) pe_int (fun _ _ => rfl)) pa_nil)))))))) pss_nil)
      (pss_cons (L2.ps_if (pt_cmpR (op_zeq (K := c.K) hu) (pv 1) pe_str (nomark _)) (pss_one (L2.ps_ret (pe_and (pe_cmpR (op_zeq (K := c.K) hu) (pe_callB (cr_len (K := c.K)) (by rfl) B.len_ PySem.boot_len (pa_cons (pv 2) pa_nil)) pe_int (nomark _)) (pe_one (pe_call D__law_name_fits.ok (hr.mono (by first | decide | omega)) rfl D__law_name_fits.at_ D__law_name_fits.kp D__law_name_fits.bd .nil pass0 (pa_cons (pe_ix (ix_z (K := c.K) (w := w)) (pv 2) pe_int (fun _ _ => rfl)) pa_nil)))))) pss_nil)
      (pss_cons (L2.ps_if (PW.pt (pw_or (pt_cmpR (op_zeq (K := c.K) hu) (pv 1) pe_str (nomark _)) (pw_or1 (pt_cmpR (op_zeq (K := c.K) hu) (pv 1) pe_str (nomark _))))) (pss_one (L2.ps_ret (pe_call D__law_pair_fits.ok (hr.mono (by first | decide | omega)) rfl D__law_pair_fits.at_ D__law_pair_fits.kp D__law_pair_fits.bd .nil pass0 (pa_cons (pv 2) pa_nil)))) pss_nil)
      (pss_one (L2.ps_ret (pe_and (pe_cmpR (op_zeq (K := c.K) hu) (pv 1) pe_str (nomark _)) (pe_one (pe_cmpR (op_zeq (K := c.K) hu) (pe_callB (cr_len (K := c.K)) (by rfl) B.len_ PySem.boot_len (pa_cons (pv 2) pa_nil)) pe_int (nomark _))))))))))))), body_run ok r k ?_⟩
  obtain ⟨-, d, rfl, hf, hP⟩ := hF
  cases d with
  | tuple ds =>
    cases ds with
    | nil =>
      walk_at "dl"
      exact fin hP rfl
    | cons x rr =>
      have hl0 : decide (((x :: rr).length : Int) = 0) = false := decide_eq_false (by rw [List.length_cons]; omega)
      have hfx : ∀ y ∈ rr, fit y = true := fun y m => (fit_tup.mp hf).2 y (List.mem_cons_of_mem _ m)
      walk_at "dl"
      refine ite_b (fun hb => ?_) (fun hb => ?_)
      · walk_at "dl"
        exact fin hP (edit_no (by cases x <;> first | rfl | (simp [isStr] at hb; done) | cases hb))
      · obtain ⟨w, rfl⟩ := str_of (d := x) (by simpa using hb)
        walk_at "dl"
        rw [cut_tail]
        refine ite_b (fun h1 => ?_) (fun h1 => ?_)
        · have h1' := of_decide_eq_true h1
          subst h1'
          walk_at "dl"
          refine ite_b (fun h3 => ?_) (fun h3 => ?_)
          · obtain ⟨y, rfl⟩ := one_of_len (of_decide_eq_true h3)
            walk_at "dl"
            refine use_FJ (hfx y (by simp)) ?_
            exact fin hP (by rw [edit_by (ps := [isText]) rfl]; simp [allP])
          · have h3' := of_decide_eq_false h3
            exact fin hP (by rw [edit_by (ps := [isText]) rfl, allP_no (by simp; omega)])
        have c1 := of_decide_eq_false h1
        walk_at "dl"
        refine ite_b (fun h1 => ?_) (fun h1 => ?_)
        · have h1' := of_decide_eq_true h1
          subst h1'
          walk_at "dl"
          refine ite_b (fun h4 => ?_) (fun h4 => ?_)
          · obtain ⟨y, z, u, rfl⟩ := three_of_len (of_decide_eq_true h4)
            have key : isEdit (.tuple [.str "splice", y, z, u]) = (isCount y && isCount z && isText u) := by
              rw [edit_by (ps := [isCount, isCount, isText]) rfl]; simp [allP, Bool.and_assoc]
            walk_at "dl"
            refine ⟨rfl, y, rfl, ⟨_, rfl, ?_⟩⟩
            refine ite_b (fun h5 => ?_) (fun h5 => ?_)
            · walk_at "dl"
              refine ⟨rfl, z, rfl, ⟨_, rfl, ?_⟩⟩
              refine ite_b (fun h6 => ?_) (fun h6 => ?_)
              · walk_at "dl"
                refine use_FJ (hfx u (by simp)) ?_
                refine fin hP ?_
                rw [key, h5, h6]; rfl
              · refine fin hP ?_
                rw [key, h6]; simp
            · refine fin hP ?_
              rw [key, h5]; simp
          · have h4' := of_decide_eq_false h4
            exact fin hP (by rw [edit_by (ps := [isCount, isCount, isText]) rfl, allP_no (by simp; omega)])
        have c2 := of_decide_eq_false h1
        walk_at "dl"
        refine ite_b (fun h1 => ?_) (fun h1 => ?_)
        · have h1' := of_decide_eq_true h1
          subst h1'
          walk_at "dl"
          refine ite_b (fun h3 => ?_) (fun h3 => ?_)
          · obtain ⟨y, rfl⟩ := one_of_len (of_decide_eq_true h3)
            walk_at "dl"
            refine use_FJ (hfx y (by simp)) ?_
            exact fin hP (by rw [edit_by (ps := [isName]) rfl]; simp [allP])
          · have h3' := of_decide_eq_false h3
            exact fin hP (by rw [edit_by (ps := [isName]) rfl, allP_no (by simp; omega)])
        have c3 := of_decide_eq_false h1
        have pair : ∀ {v : Str}, editTests v = some [isClient, isNumber] → isEdit (.tuple (.str v :: rr)) = isPair (.tuple rr) := fun {v} hk => by
          rw [edit_by hk]
          match rr with
          | [] => rfl
          | [_] => simp [allP, isPair]
          | [x, y] => simp [allP, isPair]
          | _ :: _ :: _ :: _ => simp [allP, isPair]
        walk_at "dl"
        refine ite_b (fun h1 => ?_) (fun h1 => ?_)
        · have h1' := of_decide_eq_true h1
          subst h1'
          walk_at "dl"
          exact fin hP (pair rfl)
        have c4 := of_decide_eq_false h1
        walk_at "dl"
        refine ite_b (fun h1 => ?_) (fun h1 => ?_)
        · have h1' := of_decide_eq_true h1
          subst h1'
          walk_at "dl"
          exact fin hP (pair rfl)
        have c5 := of_decide_eq_false h1
        walk_at "dl"
        refine ite_b (fun h1 => ?_) (fun h1 => ?_)
        · have h1' := of_decide_eq_true h1
          subst h1'
          walk_at "dl"
          refine fin hP ?_
          rw [edit_by (ps := []) rfl]
          cases rr with
          | nil => simp [allP]
          | cons y ys =>
            have hn : decide (((y :: ys).length : Int) = 0) = false := decide_eq_false (by rw [List.length_cons]; omega)
            exact hn
        have c6 := of_decide_eq_false h1
        walk_at "dl"
        exact fin hP (edit_none c6 (by simp [c1, c3]) c2 (by simp [c4, c5]))
  | _ =>
    walk_at "dl"
    exact fin hP rfl
theorem ok_is_plain_edit {f : Addr} {fd : FuncData} (F : Fun K "is_plain_edit" "is_plain_edit" s_is_plain_edit f fd)   {t_PUT : Tok} (C_PUT : mg "PUT" = some (.str "put" t_PUT)) {t_SPLICE : Tok} (C_SPLICE : mg "SPLICE" = some (.str "splice" t_SPLICE)) {t_REMOVE : Tok} (C_REMOVE : mg "REMOVE" = some (.str "remove" t_REMOVE)) {f_is_edit : Addr} {fd_is_edit : FuncData} {ps_is_edit : List Str} (D_is_edit : L2.Def P w K mg base 5 "is_edit" f_is_edit fd_is_edit ps_is_edit (SpF K (FJ fit isEdit)))  : FnOk P w K mg base CX0 6 f fd ["thing"] (SpF K (FJ fit isPlainE)) := by
  refine F.ok sc_is_plain_edit (fun vs H Q E h => ?_) (fun cdv A outer s H vs Q E hr h => ?_)
  · exact lenF h fun c g es P h => h.1
  obtain ⟨c, I, g, es, P, rfl, ok, r, hF, k⟩ := h
  have nd := sc_is_plain_edit.nd
  have hu := hr.units
  have hu1 := hu_of hr
  refine ⟨_, (pss_one (L2.ps_ret (pe_and (pe_call D_is_edit.ok (hr.mono (by first | decide | omega)) rfl D_is_edit.at_ D_is_edit.kp D_is_edit.bd .nil pass0 (pa_cons (pv 0) pa_nil)) (pe_one (pe_cmpR (op_zinT (K := c.K)) (pe_ix (ix_z (K := c.K) (w := w)) (pv 0) pe_int (fun _ _ => rfl)) (pe_tup (pa_cons (pe_glob (v := .str "put") (by rfl) C_PUT ⟨_, rfl⟩) (pa_cons (pe_glob (v := .str "splice") (by rfl) C_SPLICE ⟨_, rfl⟩) (pa_cons (pe_glob (v := .str "remove") (by rfl) C_REMOVE ⟨_, rfl⟩) pa_nil)))) rfl))))), body_run ok r k ?_⟩
  obtain ⟨-, d, rfl, hf, hP⟩ := hF
  walk_at "dl"
  refine ite_b (fun hb => ?_) (fun hb => ?_)
  · obtain ⟨e, rfl, ho⟩ := edit_of hb
    rw [plainE_is ho] at hP
    clear hf hb
    cases e with
    | put z =>
      rw [show (Ed.put z).D = .tuple [.str "put", .str z] from rfl]
      walk_at "dl"
      refine o_inT ["put", "splice", "remove"] rfl ?_
      exact fin hP (by rfl)
    | splice a b z =>
      rw [show (Ed.splice a b z).D = .tuple [.str "splice", .int a, .int b, .str z] from rfl]
      walk_at "dl"
      refine o_inT ["put", "splice", "remove"] rfl ?_
      exact fin hP (by rfl)
    | remove =>
      rw [show (Ed.remove).D = .tuple [.str "remove"] from rfl]
      walk_at "dl"
      refine o_inT ["put", "splice", "remove"] rfl ?_
      exact fin hP (by rfl)
    | take nm =>
      rw [show (Ed.take nm).D = .tuple [.str "take", .str nm] from rfl]
      walk_at "dl"
      refine o_inT ["put", "splice", "remove"] rfl ?_
      exact fin hP (by rfl)
    | adopt a b =>
      rw [show (Ed.adopt a b).D = .tuple [.str "adopt", .int a, .int b] from rfl]
      walk_at "dl"
      refine o_inT ["put", "splice", "remove"] rfl ?_
      exact fin hP (by rfl)
    | drop a b =>
      rw [show (Ed.drop a b).D = .tuple [.str "drop", .int a, .int b] from rfl]
      walk_at "dl"
      refine o_inT ["put", "splice", "remove"] rfl ?_
      exact fin hP (by rfl)
  · exact fin hP (by simp [isPlainE, hb])
theorem ok_can_be_done {f : Addr} {fd : FuncData} (F : Fun K "can_be_done" "can_be_done" s_can_be_done f fd)   (B : Blt mg) {t_PUT : Tok} (C_PUT : mg "PUT" = some (.str "put" t_PUT)) {t_REMOVE : Tok} (C_REMOVE : mg "REMOVE" = some (.str "remove" t_REMOVE)) {t_MOST_IN_TEXT : Tok} (C_MOST_IN_TEXT : mg "MOST_IN_TEXT" = some (.int 96 t_MOST_IN_TEXT))  : FnOk P w K mg base CX0 1 f fd ["text", "edit"] (SpF K F_canD) := by
  refine F.ok sc_can_be_done (fun vs H Q E h => ?_) (fun cdv A outer s H vs Q E hr h => ?_)
  · exact lenF h fun c g es P h => h.1
  obtain ⟨c, I, g, es, P, rfl, ok, r, hF, k⟩ := h
  have nd := sc_can_be_done.nd
  have hu := hr.units
  have hu1 := hu_of hr
  refine ⟨_, (pss_cons (L2.ps_if (pt_cmpR (op_zeq (K := c.K) hu) (pe_ix (ix_z (K := c.K) (w := w)) (pv 1) pe_int (fun _ _ => rfl)) (pe_glob (v := .str "put") (by rfl) C_PUT ⟨_, rfl⟩) (nomark _)) (pss_one (L2.ps_ret pe_bl)) pss_nil)
      (pss_cons (L2.ps_if (pt_cmpR op_isN (pv 0) pe_non (nomark _)) (pss_one (L2.ps_ret pe_bl)) pss_nil)
      (pss_cons (L2.ps_if (pt_cmpR (op_zeq (K := c.K) hu) (pe_ix (ix_z (K := c.K) (w := w)) (pv 1) pe_int (fun _ _ => rfl)) (pe_glob (v := .str "remove") (by rfl) C_REMOVE ⟨_, rfl⟩) (nomark _)) (pss_one (L2.ps_ret pe_bl)) pss_nil)
      (pss_cons (ps_asg (pe_slice (sl_z (K := c.K)) (pv 1) (po_some pe_int) po_none) (pg_tupZ (n := 3) (K := c.K) rfl (pgs_cons (pg_name (i := 2) nd rfl (by first | exact Or.inl rfl | exact Or.inr rfl)) (pgs_cons (pg_name (i := 3) nd rfl (by first | exact Or.inl rfl | exact Or.inr rfl)) (pgs_cons (pg_name (i := 4) nd rfl (by first | exact Or.inl rfl | exact Or.inr rfl)) pgs_nil)))))
      (pss_one (L2.ps_ret (pe_chain op_zle op_zle (pe_op (op_zadd (K := c.K)) (pv 2) (pv 3)) (pe_callB (cr_len (K := c.K)) (by rfl) B.len_ PySem.boot_len (pa_cons (pv 0) pa_nil)) (pe_op op_sub (pe_op (op_zadd (K := c.K)) (pe_glob (v := .int 96) (by rfl) C_MOST_IN_TEXT ⟨_, rfl⟩) (pv 3)) (pe_callB (cr_len (K := c.K)) (by rfl) B.len_ PySem.boot_len (pa_cons (pv 4) pa_nil)))))))))), body_run ok r k ?_⟩
  obtain ⟨-, tx, e, rfl, ht, ho, hp, hP⟩ := hF
  cases e with
  | take => cases hp
  | adopt => cases hp
  | drop => cases hp
  | put z =>
    rw [show (Ed.put z).D = .tuple [.str "put", .str z] from rfl]
    walk_at "dl"
    exact hP
  | remove =>
    rw [show (Ed.remove).D = .tuple [.str "remove"] from rfl]
    rcases ht with rfl | ⟨t, rfl, hl⟩
    · walk_at "dl"
      exact hP
    · walk_at "dl"
      exact hP
  | splice a b z =>
    rw [show (Ed.splice a b z).D = .tuple [.str "splice", .int a, .int b, .str z] from rfl]
    have hz := len_le ho.2.2
    rcases ht with rfl | ⟨t, rfl, hl⟩
    · walk_at "dl"
      exact hP
    · have htl : t.length ≤ sizeLine := le_line (by omega)
      have hzl : z.length ≤ sizeLine := le_line (by omega)
      walk_at "dl"
      refine ps_un3 ?_
      walk_at "dl"
      rw [cut_tail]
      refine ⟨_, _, _, rfl, ?_⟩
      walk_at "dl"
      have e := made_splice t a b z
      refine ite_b (fun h1 => ?_) (fun h1 => ?_)
      · rw [h1, Bool.true_and] at e
        rw [e] at hP
        walk_at "dl"
        exact hP
      · rw [h1, Bool.false_and] at e
        rw [e] at hP
        exact hP
theorem ok_raw_edited {f : Addr} {fd : FuncData} (F : Fun K "raw_edited" "raw_edited" s_raw_edited f fd)   {t_PUT : Tok} (C_PUT : mg "PUT" = some (.str "put" t_PUT)) {t_REMOVE : Tok} (C_REMOVE : mg "REMOVE" = some (.str "remove" t_REMOVE))  : FnOk P w K mg base CX0 1 f fd ["text", "edit"] (SpF K F_editedD) := by
  refine F.ok sc_raw_edited (fun vs H Q E h => ?_) (fun cdv A outer s H vs Q E hr h => ?_)
  · exact lenF h fun c g es P h => h.1
  obtain ⟨c, I, g, es, P, rfl, ok, r, hF, k⟩ := h
  have nd := sc_raw_edited.nd
  have hu := hr.units
  have hu1 := hu_of hr
  refine ⟨_, (pss_cons (L2.ps_if (pt_cmpR (op_zeq (K := c.K) hu) (pe_ix (ix_z (K := c.K) (w := w)) (pv 1) pe_int (fun _ _ => rfl)) (pe_glob (v := .str "put") (by rfl) C_PUT ⟨_, rfl⟩) (nomark _)) (pss_one (L2.ps_ret (pe_ix (ix_z (K := c.K) (w := w)) (pv 1) pe_int (fun _ _ => rfl)))) pss_nil)
      (pss_cons (L2.ps_if (pt_cmpR (op_zeq (K := c.K) hu) (pe_ix (ix_z (K := c.K) (w := w)) (pv 1) pe_int (fun _ _ => rfl)) (pe_glob (v := .str "remove") (by rfl) C_REMOVE ⟨_, rfl⟩) (nomark _)) (pss_one (L2.ps_ret pe_non)) pss_nil)
      (pss_cons (ps_asg (pe_slice (sl_z (K := c.K)) (pv 1) (po_some pe_int) po_none) (pg_tupZ (n := 3) (K := c.K) rfl (pgs_cons (pg_name (i := 2) nd rfl (by first | exact Or.inl rfl | exact Or.inr rfl)) (pgs_cons (pg_name (i := 3) nd rfl (by first | exact Or.inl rfl | exact Or.inr rfl)) (pgs_cons (pg_name (i := 4) nd rfl (by first | exact Or.inl rfl | exact Or.inr rfl)) pgs_nil)))))
      (pss_one (L2.ps_ret (pe_op (op_zadd (K := c.K)) (pe_op (op_zadd (K := c.K)) (pe_slice (sl_z (K := c.K)) (pv 0) po_none (po_some (pv 2))) (pv 4)) (pe_slice (sl_z (K := c.K)) (pv 0) (po_some (pe_op (op_zadd (K := c.K)) (pv 2) (pv 3))) po_none))))))), body_run ok r k ?_⟩
  obtain ⟨-, tx, e, t, rfl, ht, ho, hm, hP⟩ := hF
  cases e with
  | take => cases hm
  | adopt => cases hm
  | drop => cases hm
  | put z =>
    rw [show (Ed.put z).D = .tuple [.str "put", .str z] from rfl]
    cases hm
    walk_at "dl"
    exact hP
  | remove =>
    rw [show (Ed.remove).D = .tuple [.str "remove"] from rfl]
    rcases ht with rfl | ⟨t, rfl, hl⟩
    · cases hm
    · cases hm
      walk_at "dl"
      exact hP
  | splice a b z =>
    rw [show (Ed.splice a b z).D = .tuple [.str "splice", .int a, .int b, .str z] from rfl]
    have hz := len_le ho.2.2
    rcases ht with rfl | ⟨u, rfl, hl⟩
    · cases hm
    · have htl : u.length ≤ sizeLine := le_line (by omega)
      have c1 : (cutS u none (some a)).length ≤ u.length := cutS_len
      have c2 : (cutS u (some (a + b)) none).length ≤ u.length := cutS_len
      obtain ⟨rfl, -, -⟩ := made_text hm
      walk_at "dl"
      refine ps_un3 ?_
      walk_at "dl"
      rw [cut_tail]
      refine ⟨_, _, _, rfl, ?_⟩
      walk_at "dl"
      refine os_str htl ?_
      walk_at "dl"
      refine o_addS (le_line (by omega)) ?_
      walk_at "dl"
      refine os_str htl ?_
      refine o_addS (le_line (by rw [len_app]; omega)) ?_
      exact hP
theorem ok_edited {f : Addr} {fd : FuncData} (F : Fun K "edited" "edited" s_edited f fd)   {C_NoText : Addr} (X_NoText : ExcD K mg "NoText" C_NoText) {C_NoEdit : Addr} (X_NoEdit : ExcD K mg "NoEdit" C_NoEdit) {C_Unfit : Addr} (X_Unfit : ExcD K mg "Unfit" C_Unfit) {f_is_content : Addr} {fd_is_content : FuncData} {ps_is_content : List Str} (D_is_content : L2.Def P w K mg base 2 "is_content" f_is_content fd_is_content ps_is_content (SpF K (FJ fit isContent))) {f_is_plain_edit : Addr} {fd_is_plain_edit : FuncData} {ps_is_plain_edit : List Str} (D_is_plain_edit : L2.Def P w K mg base 6 "is_plain_edit" f_is_plain_edit fd_is_plain_edit ps_is_plain_edit (SpF K (FJ fit isPlainE))) {f_can_be_done : Addr} {fd_can_be_done : FuncData} {ps_can_be_done : List Str} (D_can_be_done : L2.Def P w K mg base 1 "can_be_done" f_can_be_done fd_can_be_done ps_can_be_done (SpF K F_canD)) {f_raw_edited : Addr} {fd_raw_edited : FuncData} {ps_raw_edited : List Str} (D_raw_edited : L2.Def P w K mg base 1 "raw_edited" f_raw_edited fd_raw_edited ps_raw_edited (SpF K F_editedD))  : FnOk P w K mg base (L2.CX P w) 7 f fd ["text", "edit"] (SpX K (FX_edited C_NoText C_NoEdit C_Unfit)) := by
  refine F.okX sc_edited (fun vs H Q E h => ?_) (fun cdv A outer s H vs Q E hr h => ?_)
  · exact lenX h fun c g es P R h => h.1
  obtain ⟨c, I, g, es, P, R, rfl, ok, r, hF, k, kx⟩ := h
  have nd := sc_edited.nd
  have hu := hr.units
  have hu1 := hu_of hr
  refine okX_go (takes_of rfl rfl rfl rfl) (fun W tk => (pss_cons (L2.ps_if (pt_not (pt_val (pe_call D_is_content.ok (hr.mono (by first | decide | omega)) rfl D_is_content.at_ D_is_content.kp D_is_content.bd .nil pass0 (pa_cons (pv 0) pa_nil)))) (pss_one (ps_raise0 rfl tk X_NoText (by rfl))) pss_nil)
      (pss_cons (L2.ps_if (pt_not (pt_val (pe_call D_is_plain_edit.ok (hr.mono (by first | decide | omega)) rfl D_is_plain_edit.at_ D_is_plain_edit.kp D_is_plain_edit.bd .nil pass0 (pa_cons (pv 1) pa_nil)))) (pss_one (ps_raise0 rfl tk X_NoEdit (by rfl))) pss_nil)
      (pss_cons (L2.ps_if (pt_not (pt_val (pe_call D_can_be_done.ok (hr.mono (by first | decide | omega)) rfl D_can_be_done.at_ D_can_be_done.kp D_can_be_done.bd .nil pass0 (pa_cons (pv 0) (pa_cons (pv 1) pa_nil))))) (pss_one (ps_raise0 rfl tk X_Unfit (by rfl))) pss_nil)
      (pss_one (L2.ps_ret (pe_call D_raw_edited.ok (hr.mono (by first | decide | omega)) rfl D_raw_edited.at_ D_raw_edited.kp D_raw_edited.bd .nil pass0 (pa_cons (pv 0) (pa_cons (pv 1) pa_nil))))))))) ok r k kx fun W => ?_
  obtain ⟨-, tx, ed, rfl, ht, he, h1, h2, h3⟩ := hF
  refine psx_seq (psx_if ?_)
  walk_at "dl"
  refine ite_b (fun hb => ?_) (fun hb => ?_)
  · exact psx_raise (h1 (by simpa using hb))
  have hc : isContent tx = true := by simpa using hb
  refine psx_lift (Dl.ps_next ?_)
  refine psx_seq (psx_if ?_)
  walk_at "dl"
  refine ite_b (fun hb => ?_) (fun hb => ?_)
  · exact psx_raise (h2 hc (by simpa using hb))
  obtain ⟨e, rfl, ho, hpl⟩ := plainE_of (d := ed) (by simpa using hb)
  obtain ⟨h4, h5⟩ := h3 e hc rfl ho hpl
  refine psx_lift (Dl.ps_next ?_)
  refine psx_seq (psx_if ?_)
  walk_at "dl"
  refine ⟨rfl, tx, e, rfl, tx_ok hc, ho, hpl, ⟨_, rfl, ?_⟩⟩
  refine ite_b (fun hb => ?_) (fun hb => ?_)
  · refine psx_raise (h4 ?_)
    cases hm : madeD tx e with
    | none => rfl
    | some t => rw [hm] at hb; cases hb
  cases hm : madeD tx e with
  | none => rw [hm] at hb; cases hb
  | some t =>
    refine psx_lift (Dl.ps_next ?_)
    refine psx_lift ?_
    walk_at "dl"
    exact ⟨rfl, tx, e, t, rfl, tx_ok hc, ho, hm, h5 t hm⟩
end Pr
set_option Elab.async false
set_option linter.all false
set_option autoImplicit false
set_option maxRecDepth 100000
set_option maxHeartbeats 4000000
set_option pp.maxSteps 500
namespace Pr
open PySem PySem.Spec PyProof.Rows L2 Dl
local macro_rules | `(tactic| walk_at "ds1") => `(tactic| first
  | ((with_reducible show PSt _ _ _ _ _ _); first
    | (with_reducible refine ps_seq ?_)
    | (with_reducible refine ps_ret ?_)
    | (with_reducible refine ps_if ?_)
    | (with_reducible refine ps_set ?_)
    | (with_reducible refine ps_next ?_)
    | (with_reducible refine ps_drop ?_)
    | (with_reducible refine ps_setix ?_))
  | ((with_reducible show PV _ _ _ _ _); first
    | ((with_reducible refine' pv_var ?k1 ?_); (case k1 => rfl))
    | (with_reducible refine pv_int ?_)
    | (with_reducible refine pv_str ?_)
    | (with_reducible refine pv_bl ?_)
    | (with_reducible refine pv_non ?_)
    | (with_reducible refine pv_and ?_)
    | (with_reducible refine pv_or ?_)
    | (with_reducible refine pv_not ?_)
    | (with_reducible refine pv_if ?_)
    | (with_reducible refine pv_op ?_)
    | (with_reducible refine pv_un ?_)
    | (with_reducible refine pv_chain ?_)
    | (with_reducible refine pv_tup ?_)
    | (with_reducible refine pv_call ?_)
    | (with_reducible refine pv_allT ?_)
    | (with_reducible refine pv_allS ?_)
    | (with_reducible refine pv_allR ?_)
    | (with_reducible refine pv_lcT ?_)
    | (with_reducible refine pv_lcL ?_)
    | (with_reducible refine pv_lcTF ?_)
    | (with_reducible refine pv_listRg2 ?_)
    | (with_reducible refine pv_cb ?_)
    | (with_reducible refine pv_sl ?_)
    | (with_reducible refine pv_dget ?_)
    | ((with_reducible refine' pv_const ?k1 ?_); (case k1 => assumption))
    | (with_reducible refine pv_raw ?_))
  | ((with_reducible show O2 _ _ _ _ _ _); first
    | (with_reducible refine o_add ?_)
    | ((with_reducible refine' o_iic ?k1 ?_); (case k1 => first | (show (0 : Int) < _; first | decide | assumption | omega) | exact Or.inr ⟨by decide, by decide⟩ | exact Or.inl ⟨by decide, by decide⟩))
    | (with_reducible refine o_ii ?_)
    | (with_reducible refine o_ib ?_)
    | (with_reducible refine o_le ?_)
    | (with_reducible refine o_lt ?_)
    | (with_reducible refine o_eqI ?_)
    | (with_reducible refine o_neI ?_)
    | (with_reducible refine o_eqS ?_)
    | (with_reducible refine o_eqB ?_)
    | (with_reducible refine o_neB ?_)
    | (with_reducible refine o_leS ?_)
    | (with_reducible refine o_inS ?_)
    | ((with_reducible refine' o_isN ?k1 ?_); (case k1 => rfl))
    | ((with_reducible refine' o_notN ?k1 ?_); (case k1 => rfl))
    | (with_reducible refine o_isntB ?_)
    | ((with_reducible refine' o_ixM ?k1 ?k2 ?_); (case k1 => first | assumption | exact put_same); (case k2 => first | exact at0 | exact at1 | exact atI_nat (j := 2) rfl | exact atI_nat (j := 3) rfl | exact atI_nat (j := 4) rfl))
    | ((with_reducible refine' o_ixT ?k1 ?_); (case k1 => first | exact at0 | exact at1 | exact atI_nat (j := 2) rfl | exact atI_nat (j := 3) rfl | exact atI_nat (j := 4) rfl | exact atI_nat (j := 5) rfl | exact atI_nat (j := 6) rfl | rfl)))
  | ((with_reducible show OC _ _ _ _ _); first
    | (with_reducible refine oc_isi (isT_int _) ?_)
    | (with_reducible refine oc_isi (isT_bool _) ?_)
    | (with_reducible refine oc_isi (isT_str _) ?_)
    | (with_reducible refine oc_isi (isT_tuple _) ?_)
    | (with_reducible refine oc_isi (isT_list _) ?_)
    | (with_reducible refine oc_lenT ?_)
    | (with_reducible refine oc_lenL ?_)
    | (with_reducible refine oc_lenR ?_)
    | (with_reducible refine oc_int ?_)
    | (with_reducible refine oc_abs ?_)
    | ((with_reducible refine oc_lenS ?k1 ?_); (case k1 => assumption)))
  | ((with_reducible show PAs _ _ _ _ _); first
    | (with_reducible refine pas_nil ?_)
    | (with_reducible refine pas_cons ?_))
  | ((with_reducible show PB _ _ _ _ _); first
    | (with_reducible refine pb_test' ?_)
    | (with_reducible refine pb_B ?_)
    | (with_reducible refine pb_and ?_)
    | (with_reducible refine pb_or ?_)
    | (with_reducible refine pb_not ?_))
  | ((with_reducible show PPart _ _ _ _ _); first
    | (with_reducible refine pp_none ?_)
    | (with_reducible refine pp_some ?_))
  | ((with_reducible show O1 _ _ _ _ _); first
    | (with_reducible refine o_neg ?_))
  | ((with_reducible show OSl _ _ _ _ _ _ _); first
    | (with_reducible refine os_lst ?_)
    | (with_reducible refine os_tup ?_))
  | ((with_reducible refine ite_t ?k1 ?_); (case k1 => rfl))
  | ((with_reducible refine ite_f ?k1 ?_); (case k1 => rfl))
  | ((with_reducible refine use_FJ ?k1 ?_); (case k1 => first | rfl | assumption))
  | (with_reducible refine use_is_between ?_)
  | (with_reducible refine use_is_tuple_of ?_)
  | (refine Or.inl (Exists.intro _ (And.intro rfl (And.intro (le_line (Nat.le_of_ble_eq_true rfl)) ?_))))
  | (refine Or.inr (Exists.intro _ (And.intro rfl (And.intro (le_line (Nat.le_of_ble_eq_true rfl)) ?_))))
  | (with_reducible refine Exists.intro _ (And.intro rfl ?_))
  | ((with_reducible refine And.intro ?k1 ?_); (case k1 => exact le_line (Nat.le_of_ble_eq_true rfl))))
local macro_rules | `(tactic| walk_at "ds") => `(tactic| repeat walk_at "ds1")
variable {P : Program} {w : World} {K : PySem.W.Frag} {mg : Str → Option Value} {base : Heap}
theorem ok__law_done {f : Addr} {fd : FuncData} (F : Fun K "_law_done" "_law_done" s__law_done f fd)   (B : Blt mg)  : FnOk P w K mg base CX0 1 f fd ["_law_text_here", "_law_edit_here"] (SpF K FW_done) := by
  refine F.ok sc__law_done (fun vs H Q E h => ?_) (fun cdv A outer s H vs Q E hr h => ?_)
  · exact lenF h fun c g es P h => h.1
  obtain ⟨I, g, es, P, ok, r, hF, k⟩ := spFL h
  have nd := sc__law_done.nd
  have hu := hr.units
  have hu1 := hu_of hr
  refine ⟨_, (pss_cons (L2.ps_if (pt_cmpR (op_zeq (K := (sC K).K) hu) (pe_ix (ix_z (K := (sC K).K) (w := w)) (pv 1) pe_int (fun _ _ => rfl)) pe_str (nomark _)) (pss_one (L2.ps_ret (pe_tup (pa_cons pe_str (pa_cons (pe_ix (ix_z (K := (sC K).K) (w := w)) (pv 1) pe_int (fun _ _ => rfl)) pa_nil))))) pss_nil)
      (pss_cons (L2.ps_if (pt_cmpR op_isN (pv 0) pe_non (nomark _)) (pss_one (L2.ps_ret (pe_tup (pa_cons pe_str (pa_cons pe_non pa_nil))))) pss_nil)
      (pss_cons (L2.ps_if (pt_cmpR (op_zeq (K := (sC K).K) hu) (pe_ix (ix_z (K := (sC K).K) (w := w)) (pv 1) pe_int (fun _ _ => rfl)) pe_str (nomark _)) (pss_one (L2.ps_ret (pe_tup (pa_cons pe_str (pa_cons pe_non pa_nil))))) pss_nil)
      (pss_cons (ps_setLc (i := 2) (own := [("_law_sign", 3)]) (g := gName 3) (tt := tYes) rfl nd rfl rfl (sw_true rfl rfl rfl (by decide +kernel)) (pi_str (pv 0)) (blkOk_by (N := ["_law_text_here", "_law_edit_here", "_law_signs_here", "_law_sign", "_law_k"]) (sc := defScope s__law_done) (by decide +kernel)) (fun _ _ _ _ _ => pg_name (i := 3) nd rfl (Or.inl rfl)) (fun _ _ _ _ _ => pts_nil) (fun _ _ _ _ _ => (pv 3)))
      (pss_cons (L2.ps_if (pt_cmpR op_gt (pe_op (op_zadd (K := (sC K).K)) (pe_ix (ix_z (K := (sC K).K) (w := w)) (pv 1) pe_int (fun _ _ => rfl)) (pe_ix (ix_z (K := (sC K).K) (w := w)) (pv 1) pe_int (fun _ _ => rfl))) (pe_callB (cr_len (K := (sC K).K)) (by rfl) B.len_ PySem.boot_len (pa_cons (pv 2) pa_nil)) (nomark _)) (pss_one (L2.ps_ret (pe_tup (pa_cons pe_str (pa_cons pe_non pa_nil))))) pss_nil)
      (pss_cons (L2.ps_for PassesOwn.never rfl (pi_range1 rfl B.range_ (pa_cons (pe_ix (ix_z (K := (sC K).K) (w := w)) (pv 1) pe_int (fun _ _ => rfl)) pa_nil)) (pg_name (i := 4) nd rfl (by first | exact Or.inl rfl | exact Or.inr rfl)) (pss_one (L2.ps_expr (pe_bm PySem.F.plainAttrs_list PySem.F.slot_list_pop PySem.F.type_list_pop mt_popAt (pv 2) (pa_cons (pe_ix (ix_z (K := (sC K).K) (w := w)) (pv 1) pe_int (fun _ _ => rfl)) pa_nil)))))
      (pss_cons (L2.ps_for PassesOwn.never rfl (pi_range1 rfl B.range_ (pa_cons (pe_callB (cr_len (K := (sC K).K)) (by rfl) B.len_ PySem.boot_len (pa_cons (pe_ix (ix_z (K := (sC K).K) (w := w)) (pv 1) pe_int (fun _ _ => rfl)) pa_nil)) pa_nil)) (pg_name (i := 4) nd rfl (by first | exact Or.inl rfl | exact Or.inr rfl)) (pss_one (L2.ps_expr (pe_bm PySem.F.plainAttrs_list PySem.F.slot_list_insert PySem.F.type_list_insert mt_insertR (pv 2) (pa_cons (pe_op (op_zadd (K := (sC K).K)) (pe_ix (ix_z (K := (sC K).K) (w := w)) (pv 1) pe_int (fun _ _ => rfl)) (pv 4)) (pa_cons (pe_ix (ix_z (K := (sC K).K) (w := w)) (pe_ix (ix_z (K := (sC K).K) (w := w)) (pv 1) pe_int (fun _ _ => rfl)) (pv 4) (fun _ _ => rfl)) pa_nil))))))
      (pss_cons (L2.ps_if (pt_cmpR op_gt (pe_callB (cr_len (K := (sC K).K)) (by rfl) B.len_ PySem.boot_len (pa_cons (pv 2) pa_nil)) pe_int (nomark _)) (pss_one (L2.ps_ret (pe_tup (pa_cons pe_str (pa_cons pe_non pa_nil))))) pss_nil)
      (pss_one (L2.ps_ret (pe_tup (pa_cons pe_str (pa_cons (pe_joinZ (K := (sC K).K) pe_str (pv 2)) pa_nil))))))))))))), body_run ok r k ?_⟩
  obtain ⟨tx, e, rfl, ht, ho, hp, hP⟩ := hF
  cases e with
  | take => cases hp
  | adopt => cases hp
  | drop => cases hp
  | put z =>
    rw [show (Ed.put z).D = .tuple [.str "put", .str z] from rfl]
    walk_at "ds"
    exact hP
  | remove =>
    rw [show (Ed.remove).D = .tuple [.str "remove"] from rfl]
    rcases content_of ht with rfl | ⟨t, rfl, hl⟩
    · walk_at "ds"
      exact hP
    · walk_at "ds"
      exact hP
  | splice a b z =>
    rw [show (Ed.splice a b z).D = .tuple [.str "splice", .int a, .int b, .str z] from rfl]
    have hz := len_le ho.2.2
    obtain ⟨a, rfl⟩ := Int.eq_ofNat_of_zero_le ho.1
    obtain ⟨b, rfl⟩ := Int.eq_ofNat_of_zero_le ho.2.1
    rcases content_of ht with rfl | ⟨t, rfl, hl⟩
    · walk_at "ds"
      exact hP
    have htl := len_le hl
    have hzL : z.length ≤ sizeLine := le_line (by omega)
    have htL : t.length ≤ sizeLine := le_line (by omega)
    rw [made_at] at hP
    have eT : t.cps.toList.length = t.length := Array.length_toList
    have eZ : z.cps.toList.length = z.length := Array.length_toList
    walk_at "ds"
    refine pv_lcSigns ?_
    walk_at "ds"
    refine ⟨by simp, by show 3 < 5; decide, by omega, fun D hD => ?_⟩
    have fz : ∀ L : List Nat, del (put g D (.ml (sgL L))) D = g := fun L => del_put hD
    walk_at "ds"
    refine oc_lenM put_same ?_
    walk_at "ds"
    refine ite_b (fun hb => ?_) (fun hb => ?_)
    · have hb' := of_decide_eq_true hb
      simp only [sgL, List.length_map] at hb'
      refine ps_freeze (ds := t.cps.toList.map sgn) 2 rfl put_same ?_
      rw [fz]
      walk_at "ds"
      rw [if_neg (by omega)] at hP
      exact hP
    have hb' := of_decide_eq_false hb
    simp only [sgL, List.length_map] at hb'
    walk_at "ds"
    refine Dl.ps_for (pit_rng1 ?_)
    walk_at "ds"
    refine ⟨by omega, by omega, fun (i : Nat) ρ2 (g2 : Store) => ∃ (e3 e4 : Option EV), ρ2 = [some (.d (.str t)), some (.d (.tuple [.str "splice", .int a, .int b, .str z])), some (.r (.ref D)), e3, e4] ∧ g2 = put g D (.ml (sgL (t.cps.toList.take a ++ t.cps.toList.drop (a + i)))), ⟨_, _, rfl, by rw [Nat.add_zero, List.take_append_drop]⟩, ?_, ?_⟩
    · rintro i ρ2 g2 hi ⟨e3, e4, rfl, rfl⟩
      have hi2 : a + i < t.cps.toList.length := by omega
      walk_at "ds"
      refine pv_popI ?_
      walk_at "ds"
      refine ⟨⟨_, put_same⟩, ?_⟩
      walk_at "ds"
      refine ⟨_, _, a, rfl, by omega, put_same, at_mid hi2, ?_⟩
      refine ⟨_, _, rfl, ?_⟩
      rw [put_put, sgL, List.map_map, erase_map, erase_mid hi2, ← List.map_map]
    · rintro ρ2 g2 ⟨e3, e4, rfl, rfl⟩
      simp only [Int.toNat_natCast]
      walk_at "ds"
      refine Dl.ps_for (pit_rng1 ?_)
      walk_at "ds"
      refine ⟨by omega, by omega, fun (i : Nat) ρ2 (g2 : Store) => ∃ (e3 e4 : Option EV), ρ2 = [some (.d (.str t)), some (.d (.tuple [.str "splice", .int a, .int b, .str z])), some (.r (.ref D)), e3, e4] ∧ g2 = put g D (.ml (sgL (t.cps.toList.take a ++ z.cps.toList.take i ++ t.cps.toList.drop (a + b)))), ⟨_, _, rfl, by rw [List.take_zero, List.append_nil]⟩, ?_, ?_⟩
      · rintro i ρ2 g2 hi ⟨e3, e4, rfl, rfl⟩
        have hi2 : i < z.cps.toList.length := by omega
        have ei : atI z.cps.toList (i : Int) = some z.cps.toList[i] := atI_nat (List.getElem?_eq_getElem hi2)
        simp only [Int.zero_add]
        walk_at "ds"
        refine pv_insertI ?_
        walk_at "ds"
        refine ⟨⟨_, put_same⟩, ?_⟩
        walk_at "ds"
        refine o_ixS (le_line (by omega)) ei ?_
        walk_at "ds"
        refine ⟨_, .d (sgn z.cps.toList[i]), a + i, ?_, by omega, put_same, ?_, ?_⟩
        · rw [show ((a + i : Nat) : Int) = (a : Int) + i from by omega]; rfl
        · simp only [sgL, List.length_map, List.length_append, List.length_take, List.length_drop]
          exact lt_line (by omega)
        · refine ⟨_, _, rfl, ?_⟩
          rw [put_put]
          have key := insert_mid (T := t.cps.toList) (Z := z.cps.toList) (a := a) (k := i) (n := a + b) (by omega) hi2
          dsimp only at key
          rw [← key]
      · rintro ρ2 g2 ⟨e3, e4, rfl, rfl⟩
        have eF : t.cps.toList.take a ++ z.cps.toList.take ((z.length : Int)).toNat ++ t.cps.toList.drop (a + b) = (spliceD t a b z).cps.toList := by
          have eZt : z.cps.toList.take z.length = z.cps.toList := List.take_of_length_le (by omega)
          rw [splice_signs, Int.toNat_natCast, eZt]
        rw [eF]
        have hlen : ((spliceD t a b z).cps.toList.length : Int) = t.length - b + z.length := by
          rw [splice_signs]
          simp only [List.length_append, List.length_take, List.length_drop]
          omega
        walk_at "ds"
        refine oc_lenM put_same ?_
        walk_at "ds"
        refine ite_b (fun hb => ?_) (fun hb => ?_)
        · have hb2 := of_decide_eq_true hb
          simp only [sgL, List.length_map] at hb2
          refine ps_freeze (ds := (spliceD t a b z).cps.toList.map sgn) 2 rfl put_same ?_
          rw [fz]
          walk_at "ds"
          rw [if_neg (by omega)] at hP
          exact hP
        · have hb2 := of_decide_eq_false hb
          simp only [sgL, List.length_map] at hb2
          refine Dl.ps_next ?_
          refine ps_freeze (ds := (spliceD t a b z).cps.toList.map sgn) 2 rfl put_same ?_
          rw [fz]
          rw [if_pos (by omega)] at hP
          walk_at "ds"
          refine pv_join ?_
          walk_at "ds"
          refine ⟨(spliceD t a b z).cps.toList.map fun x => (⟨#[x]⟩ : Str), by rw [List.map_map]; rfl, ?_, ?_⟩
          · rw [sum_ones]
            have e : (Str.ofString "").length = 0 := by decide
            rw [e]; omega
          · have eS : (⟨(spliceD t a b z).cps.toList.toArray⟩ : Str) = spliceD t a b z := by rw [Array.toArray_toList]
            rw [join_sgns, eS]
            walk_at "ds"
            exact hP
end Pr
set_option Elab.async false
set_option linter.all false
set_option autoImplicit false
set_option maxRecDepth 100000
set_option maxHeartbeats 4000000
set_option pp.maxSteps 500
namespace Pr
open PySem PySem.Spec PyProof.Rows L2 Dl
local macro_rules | `(tactic| walk_at "dl1") => `(tactic| first
  | ((with_reducible show PSt _ _ _ _ _ _); first
    | (with_reducible refine ps_seq ?_)
    | (with_reducible refine ps_ret ?_)
    | (with_reducible refine ps_if ?_)
    | (with_reducible refine ps_set ?_)
    | (with_reducible refine ps_next ?_)
    | (with_reducible refine ps_drop ?_))
  | ((with_reducible show PV _ _ _ _ _); first
    | ((with_reducible refine' pv_var ?k1 ?_); (case k1 => rfl))
    | (with_reducible refine pv_int ?_)
    | (with_reducible refine pv_str ?_)
    | (with_reducible refine pv_bl ?_)
    | (with_reducible refine pv_non ?_)
    | (with_reducible refine pv_and ?_)
    | (with_reducible refine pv_or ?_)
    | (with_reducible refine pv_not ?_)
    | (with_reducible refine pv_if ?_)
    | (with_reducible refine pv_op ?_)
    | (with_reducible refine pv_un ?_)
    | (with_reducible refine pv_chain ?_)
    | (with_reducible refine pv_tup ?_)
    | (with_reducible refine pv_lst2 ?_)
    | (with_reducible refine pv_call ?_)
    | (with_reducible refine pv_allT ?_)
    | (with_reducible refine pv_allS ?_)
    | (with_reducible refine pv_allR ?_)
    | (with_reducible refine pv_lcT ?_)
    | (with_reducible refine pv_lcL ?_)
    | (with_reducible refine pv_lcTF ?_)
    | (with_reducible refine pv_listRg2 ?_)
    | (with_reducible refine pv_cb ?_)
    | (with_reducible refine pv_sl ?_)
    | ((with_reducible refine' pv_const ?k1 ?_); (case k1 => assumption))
    | ((with_reducible refine' pv_constR ?k1 ?_); (case k1 => assumption))
    | (with_reducible refine pv_raw ?_))
  | ((with_reducible show O2 _ _ _ _ _ _); first
    | (with_reducible refine o_add ?_)
    | (with_reducible refine o_ii ?_)
    | (with_reducible refine o_ib ?_)
    | (with_reducible refine o_le ?_)
    | (with_reducible refine o_lt ?_)
    | (with_reducible refine o_eqI ?_)
    | (with_reducible refine o_neI ?_)
    | (with_reducible refine o_eqS ?_)
    | (with_reducible refine o_eqB ?_)
    | (with_reducible refine o_neB ?_)
    | (with_reducible refine o_leS ?_)
    | (with_reducible refine o_inS ?_)
    | ((with_reducible refine' o_isN ?k1 ?_); (case k1 => rfl))
    | ((with_reducible refine' o_notN ?k1 ?_); (case k1 => rfl))
    | (with_reducible refine o_isntB ?_)
    | ((with_reducible refine' o_ixT ?k1 ?_); (case k1 => first | exact at0 | exact at1 | exact atI_nat (j := 2) rfl | exact atI_nat (j := 3) rfl | exact atI_nat (j := 4) rfl | exact atI_nat (j := 5) rfl | exact atI_nat (j := 6) rfl | rfl)))
  | ((with_reducible show OC _ _ _ _ _); first
    | (with_reducible refine oc_isi (isT_int _) ?_)
    | (with_reducible refine oc_isi (isT_bool _) ?_)
    | (with_reducible refine oc_isi (isT_str _) ?_)
    | (with_reducible refine oc_isi (isT_tuple _) ?_)
    | (with_reducible refine oc_isi (isT_list _) ?_)
    | (with_reducible refine oc_lenT ?_)
    | (with_reducible refine oc_lenL ?_)
    | (with_reducible refine oc_lenR ?_)
    | ((with_reducible refine oc_lenS ?k1 ?_); (case k1 => assumption)))
  | ((with_reducible show PAs _ _ _ _ _); first
    | (with_reducible refine pas_nil ?_)
    | (with_reducible refine pas_cons ?_))
  | ((with_reducible show PB _ _ _ _ _); first
    | (with_reducible refine pb_test' ?_)
    | (with_reducible refine pb_B ?_)
    | (with_reducible refine pb_and ?_)
    | (with_reducible refine pb_or ?_)
    | (with_reducible refine pb_not ?_))
  | ((with_reducible show PPart _ _ _ _ _); first
    | (with_reducible refine pp_none ?_)
    | (with_reducible refine pp_some ?_))
  | ((with_reducible show OSl _ _ _ _ _ _ _); first
    | (with_reducible refine os_tup ?_))
  | ((with_reducible refine ite_t ?k1 ?_); (case k1 => rfl))
  | ((with_reducible refine ite_f ?k1 ?_); (case k1 => rfl))
  | ((with_reducible refine use_FJ ?k1 ?_); (case k1 => first | rfl | assumption))
  | (with_reducible refine use_is_between ?_)
  | (with_reducible refine use_is_tuple_of ?_)
  | (refine Or.inl (Exists.intro _ (And.intro rfl (And.intro (le_line (Nat.le_of_ble_eq_true rfl)) ?_))))
  | (refine Or.inr (Exists.intro _ (And.intro rfl (And.intro (le_line (Nat.le_of_ble_eq_true rfl)) ?_))))
  | (with_reducible refine Exists.intro _ (And.intro rfl ?_))
  | ((with_reducible refine And.intro ?k1 ?_); (case k1 => exact le_line (Nat.le_of_ble_eq_true rfl))))
local macro_rules | `(tactic| walk_at "dl") => `(tactic| repeat walk_at "dl1")
variable {P : Program} {w : World} {K : PySem.W.Frag} {mg : Str → Option Value} {base : Heap}
theorem ok__law_told {f : Addr} {fd : FuncData} (F : Fun K "_law_told" "_law_told" s__law_told f fd)   {C_NoText : Addr} (X_NoText : ExcD K mg "NoText" C_NoText) {C_NoEdit : Addr} (X_NoEdit : ExcD K mg "NoEdit" C_NoEdit) {C_Unfit : Addr} (X_Unfit : ExcD K mg "Unfit" C_Unfit) {C_LeaseError : Addr} (X_LeaseError : ExcD K mg "LeaseError" C_LeaseError) {f_edited : Addr} {fd_edited : FuncData} {ps_edited : List Str} (D_edited : DefX P w K mg base 7 "edited" f_edited fd_edited ps_edited (SpX K (FX_edited C_NoText C_NoEdit C_Unfit))) (E11 : PySem.W.exmOne K (.ref C_NoText) (.ref C_NoText) = some true) (E21 : PySem.W.exmOne K (.ref C_NoEdit) (.ref C_NoText) = some false) (E22 : PySem.W.exmOne K (.ref C_NoEdit) (.ref C_NoEdit) = some true) (E31 : PySem.W.exmOne K (.ref C_Unfit) (.ref C_NoText) = some false) (E32 : PySem.W.exmOne K (.ref C_Unfit) (.ref C_NoEdit) = some false) (E33 : PySem.W.exmOne K (.ref C_Unfit) (.ref C_Unfit) = some true) : FnOk P w K mg base CX0 8 f fd ["_law_text_here", "_law_edit_here"] (SpF K F_told2) := by
  refine F.ok sc__law_told (fun vs H Q E h => ?_) (fun cdv A outer s H vs Q E hr h => ?_)
  · exact lenF h fun c g es P h => h.1
  obtain ⟨c, I, g, es, P, rfl, ok, r, hF, k⟩ := h
  have nd := sc__law_told.nd
  have hu := hr.units
  have hu1 := hu_of hr
  refine ⟨_, (pss_cons (L2.ps_set (i := 2) nd rfl (by first | exact Or.inl rfl | exact Or.inr rfl | exact Or.inr (Or.inl rfl)) (pe_tup (pa_cons pe_str (pa_cons pe_non pa_nil))))
      (pss_cons (ps_try_manyK (K := c.K) rfl rfl (fun W pn xe tk _ => (pss_one (L2.ps_set (i := 2) nd rfl (by first | exact Or.inl rfl | exact Or.inr rfl | exact Or.inr (Or.inl rfl)) (pe_tup (pa_cons pe_str (pa_cons (pe_callS D_edited.ok (hr.mono (by first | decide | omega)) rfl D_edited.at_ D_edited.kp D_edited.bd (fun σ => passAt tk σ) (pa_cons (pv 0) (pa_cons (pv 1) pa_nil))) pa_nil)))))) (.cons ⟨rfl, by decide, .inl X_NoText.at_⟩ (fun a oe cls d pn hz hf => (pss_one (L2.ps_set (i := 2) nd rfl (by first | exact Or.inl rfl | exact Or.inr rfl | exact Or.inr (Or.inl rfl)) (pe_tup (pa_cons pe_str (pa_cons pe_non pa_nil)))))) (.cons ⟨rfl, by decide, .inl X_NoEdit.at_⟩ (fun a oe cls d pn hz hf => (pss_one (L2.ps_set (i := 2) nd rfl (by first | exact Or.inl rfl | exact Or.inr rfl | exact Or.inr (Or.inl rfl)) (pe_tup (pa_cons pe_str (pa_cons pe_non pa_nil)))))) (.cons ⟨rfl, by decide, .inl X_Unfit.at_⟩ (fun a oe cls d pn hz hf => (pss_one (L2.ps_set (i := 2) nd rfl (by first | exact Or.inl rfl | exact Or.inr rfl | exact Or.inr (Or.inl rfl)) (pe_tup (pa_cons pe_str (pa_cons pe_non pa_nil)))))) (.cons ⟨rfl, by decide, .inl X_LeaseError.at_⟩ (fun a oe cls d pn hz hf => (pss_one (L2.ps_set (i := 2) nd rfl (by first | exact Or.inl rfl | exact Or.inr rfl | exact Or.inr (Or.inl rfl)) (pe_tup (pa_cons pe_str (pa_cons pe_non pa_nil)))))) .nil)))))
      (pss_one (L2.ps_ret (pv 2))))), body_run ok r k ?_⟩
  obtain ⟨-, tx, ed, rfl, ht, he, hP⟩ := hF
  refine Dl.ps_seq (Dl.ps_set ?_)
  walk_at "dl"
  refine ps_tryMany (R := fun cls ρ1 g1 => ρ1 = [some (.d tx), some (.d ed), some (.d (.tuple [.str "other", .none]))] ∧ g1 = g ∧ ((cls = .ref C_NoText ∧ dueD tx ed = .tuple [.str "text", .none]) ∨ (cls = .ref C_NoEdit ∧ dueD tx ed = .tuple [.str "edit", .none]) ∨ (cls = .ref C_Unfit ∧ dueD tx ed = .tuple [.str "unfit", .none]))) (fun W => ?_) ?_
  · refine psx_set (pvx_tup (pasx_cons (pvx_lift ?_)))
    walk_at "dl"
    refine pasx_cons (pvx_call ?_)
    walk_at "dl"
    refine ⟨rfl, tx, ed, rfl, ht, he, fun h => ?_, fun h h2 => ?_, fun e h h1 ho hp => ⟨fun hm => ?_, fun t hm => ?_⟩⟩
    · exact ⟨rfl, rfl, .inl ⟨rfl, by unfold dueD; rw [if_pos h]⟩⟩
    · exact ⟨rfl, rfl, .inr (.inl ⟨rfl, by unfold dueD; rw [h, h2]; rfl⟩)⟩
    · refine ⟨rfl, rfl, .inr (.inr ⟨rfl, ?_⟩)⟩
      subst h1
      unfold dueD doneD
      rw [h, plainE_is ho, hp, edOf_D hp, hm]; rfl
    · refine pasx_nil ?_
      refine ⟨_, rfl, le_line (Nat.le_of_ble_eq_true rfl), ?_⟩
      subst h1
      have e2 : dueD tx e.D = .tuple [.str "told", t] := by
        unfold dueD doneD
        rw [h, plainE_is ho, hp, edOf_D hp, hm]; rfl
      rw [e2] at hP
      walk_at "dl"
      exact hP
  · rintro cls ρ1 g1 ⟨rfl, rfl, h | h | h⟩
    · obtain ⟨rfl, e2⟩ := h
      rw [e2] at hP
      refine ⟨true, E11, fun _ a => ?_, fun z => by cases z⟩
      walk_at "dl"
      exact hP
    · obtain ⟨rfl, e2⟩ := h
      rw [e2] at hP
      refine ⟨false, E21, fun z => (by cases z), fun _ => ⟨true, E22, fun _ a => ?_, fun z => by cases z⟩⟩
      walk_at "dl"
      exact hP
    · obtain ⟨rfl, e2⟩ := h
      rw [e2] at hP
      refine ⟨false, E31, fun z => (by cases z), fun _ => ⟨false, E32, fun z => (by cases z), fun _ => ⟨true, E33, fun _ a => ?_, fun z => by cases z⟩⟩⟩
      walk_at "dl"
      exact hP
end Pr
set_option Elab.async false
set_option linter.all false
set_option autoImplicit false
set_option maxRecDepth 100000
set_option maxHeartbeats 4000000
set_option pp.maxSteps 500
namespace Pr
open PySem PySem.Spec PyProof.Rows L2 Dl
local macro_rules | `(tactic| walk_at "ds1") => `(tactic| first
  | ((with_reducible show PSt _ _ _ _ _ _); first
    | (with_reducible refine ps_seq ?_)
    | (with_reducible refine ps_ret ?_)
    | (with_reducible refine ps_if ?_)
    | (with_reducible refine ps_set ?_)
    | (with_reducible refine ps_next ?_)
    | (with_reducible refine ps_drop ?_)
    | (with_reducible refine ps_setix ?_))
  | ((with_reducible show PV _ _ _ _ _); first
    | ((with_reducible refine' pv_var ?k1 ?_); (case k1 => rfl))
    | (with_reducible refine pv_int ?_)
    | (with_reducible refine pv_str ?_)
    | (with_reducible refine pv_bl ?_)
    | (with_reducible refine pv_non ?_)
    | (with_reducible refine pv_and ?_)
    | (with_reducible refine pv_or ?_)
    | (with_reducible refine pv_not ?_)
    | (with_reducible refine pv_if ?_)
    | (with_reducible refine pv_op ?_)
    | (with_reducible refine pv_un ?_)
    | (with_reducible refine pv_chain ?_)
    | (with_reducible refine pv_tup ?_)
    | (with_reducible refine pv_call ?_)
    | (with_reducible refine pv_allT ?_)
    | (with_reducible refine pv_allS ?_)
    | (with_reducible refine pv_allR ?_)
    | (with_reducible refine pv_lcT ?_)
    | (with_reducible refine pv_lcL ?_)
    | (with_reducible refine pv_lcTF ?_)
    | (with_reducible refine pv_listRg2 ?_)
    | (with_reducible refine pv_cb ?_)
    | (with_reducible refine pv_sl ?_)
    | (with_reducible refine pv_dget ?_)
    | ((with_reducible refine' pv_const ?k1 ?_); (case k1 => assumption))
    | (with_reducible refine pv_raw ?_))
  | ((with_reducible show O2 _ _ _ _ _ _); first
    | (with_reducible refine o_add ?_)
    | ((with_reducible refine' o_iic ?k1 ?_); (case k1 => first | (show (0 : Int) < _; first | decide | assumption | omega) | exact Or.inr ⟨by decide, by decide⟩ | exact Or.inl ⟨by decide, by decide⟩))
    | (with_reducible refine o_ii ?_)
    | (with_reducible refine o_ib ?_)
    | (with_reducible refine o_le ?_)
    | (with_reducible refine o_lt ?_)
    | (with_reducible refine o_eqI ?_)
    | (with_reducible refine o_neI ?_)
    | (with_reducible refine o_eqS ?_)
    | (with_reducible refine o_eqB ?_)
    | (with_reducible refine o_neB ?_)
    | (with_reducible refine o_leS ?_)
    | (with_reducible refine o_inS ?_)
    | ((with_reducible refine' o_isN ?k1 ?_); (case k1 => rfl))
    | ((with_reducible refine' o_notN ?k1 ?_); (case k1 => rfl))
    | (with_reducible refine o_isntB ?_)
    | ((with_reducible refine' o_ixM ?k1 ?k2 ?_); (case k1 => first | assumption | exact put_same); (case k2 => first | exact at0 | exact at1 | exact atI_nat (j := 2) rfl | exact atI_nat (j := 3) rfl | exact atI_nat (j := 4) rfl))
    | ((with_reducible refine' o_ixT ?k1 ?_); (case k1 => first | exact at0 | exact at1 | exact atI_nat (j := 2) rfl | exact atI_nat (j := 3) rfl | exact atI_nat (j := 4) rfl | exact atI_nat (j := 5) rfl | exact atI_nat (j := 6) rfl | rfl)))
  | ((with_reducible show OC _ _ _ _ _); first
    | (with_reducible refine oc_isi (isT_int _) ?_)
    | (with_reducible refine oc_isi (isT_bool _) ?_)
    | (with_reducible refine oc_isi (isT_str _) ?_)
    | (with_reducible refine oc_isi (isT_tuple _) ?_)
    | (with_reducible refine oc_isi (isT_list _) ?_)
    | (with_reducible refine oc_lenT ?_)
    | (with_reducible refine oc_lenL ?_)
    | (with_reducible refine oc_lenR ?_)
    | (with_reducible refine oc_int ?_)
    | (with_reducible refine oc_abs ?_)
    | ((with_reducible refine oc_lenS ?k1 ?_); (case k1 => assumption)))
  | ((with_reducible show PAs _ _ _ _ _); first
    | (with_reducible refine pas_nil ?_)
    | (with_reducible refine pas_cons ?_))
  | ((with_reducible show PB _ _ _ _ _); first
    | (with_reducible refine pb_test' ?_)
    | (with_reducible refine pb_B ?_)
    | (with_reducible refine pb_and ?_)
    | (with_reducible refine pb_or ?_)
    | (with_reducible refine pb_not ?_))
  | ((with_reducible show PPart _ _ _ _ _); first
    | (with_reducible refine pp_none ?_)
    | (with_reducible refine pp_some ?_))
  | ((with_reducible show O1 _ _ _ _ _); first
    | (with_reducible refine o_neg ?_))
  | ((with_reducible show OSl _ _ _ _ _ _ _); first
    | (with_reducible refine os_lst ?_)
    | (with_reducible refine os_tup ?_))
  | ((with_reducible refine ite_t ?k1 ?_); (case k1 => rfl))
  | ((with_reducible refine ite_f ?k1 ?_); (case k1 => rfl))
  | ((with_reducible refine use_FJ ?k1 ?_); (case k1 => first | rfl | assumption))
  | (with_reducible refine use_is_between ?_)
  | (with_reducible refine use_is_tuple_of ?_)
  | (refine Or.inl (Exists.intro _ (And.intro rfl (And.intro (le_line (Nat.le_of_ble_eq_true rfl)) ?_))))
  | (refine Or.inr (Exists.intro _ (And.intro rfl (And.intro (le_line (Nat.le_of_ble_eq_true rfl)) ?_))))
  | (with_reducible refine Exists.intro _ (And.intro rfl ?_))
  | ((with_reducible refine And.intro ?k1 ?_); (case k1 => exact le_line (Nat.le_of_ble_eq_true rfl))))
local macro_rules | `(tactic| walk_at "ds") => `(tactic| repeat walk_at "ds1")
variable {P : Program} {w : World} {K : PySem.W.Frag} {mg : Str → Option Value} {base : Heap}
theorem ok__law_due {f : Addr} {fd : FuncData} (F : Fun K "_law_due" "_law_due" s__law_due f fd)   {f__law_text_fits : Addr} {fd__law_text_fits : FuncData} {ps__law_text_fits : List Str} (D__law_text_fits : L2.Def P w K mg base 1 "_law_text_fits" f__law_text_fits fd__law_text_fits ps__law_text_fits (SpF K (FJ fit isText))) {f__law_edit_fits : Addr} {fd__law_edit_fits : FuncData} {ps__law_edit_fits : List Str} (D__law_edit_fits : L2.Def P w K mg base 4 "_law_edit_fits" f__law_edit_fits fd__law_edit_fits ps__law_edit_fits (SpF K (FJ fit isEdit))) {f__law_done : Addr} {fd__law_done : FuncData} {ps__law_done : List Str} (D__law_done : L2.Def P w K mg base 1 "_law_done" f__law_done fd__law_done ps__law_done (SpF K FW_done))  : FnOk P w K mg base CX0 5 f fd ["_law_text_here", "_law_edit_here"] (SpF K FW_due) := by
  refine F.ok sc__law_due (fun vs H Q E h => ?_) (fun cdv A outer s H vs Q E hr h => ?_)
  · exact lenF h fun c g es P h => h.1
  obtain ⟨I, g, es, P, ok, r, hF, k⟩ := spFL h
  have nd := sc__law_due.nd
  have hu := hr.units
  have hu1 := hu_of hr
  refine ⟨_, (pss_cons (L2.ps_if (PW.pt (pw_and (pt_cmpR op_notN (pv 0) pe_non (nomark _)) (pw_and1 (pt_not (pt_val (pe_call D__law_text_fits.ok (hr.mono (by first | decide | omega)) rfl D__law_text_fits.at_ D__law_text_fits.kp D__law_text_fits.bd .nil pass0 (pa_cons (pv 0) pa_nil))))))) (pss_one (L2.ps_ret (pe_tup (pa_cons pe_str (pa_cons pe_non pa_nil))))) pss_nil)
      (pss_cons (L2.ps_if (PW.pt (pw_or (pt_not (pt_val (pe_call D__law_edit_fits.ok (hr.mono (by first | decide | omega)) rfl D__law_edit_fits.at_ D__law_edit_fits.kp D__law_edit_fits.bd .nil pass0 (pa_cons (pv 1) pa_nil)))) (pw_or1 (pt_cmpR (op_zinT (K := (sC K).K)) (pe_ix (ix_z (K := (sC K).K) (w := w)) (pv 1) pe_int (fun _ _ => rfl)) (pe_lst (pa_cons pe_str (pa_cons pe_str (pa_cons pe_str pa_nil)))) rfl)))) (pss_one (L2.ps_ret (pe_tup (pa_cons pe_str (pa_cons pe_non pa_nil))))) pss_nil)
      (pss_one (L2.ps_ret (pe_call D__law_done.ok (hr.mono (by first | decide | omega)) rfl D__law_done.at_ D__law_done.kp D__law_done.bd .nil pass0 (pa_cons (pv 0) (pa_cons (pv 1) pa_nil))))))), body_run ok r k ?_⟩
  obtain ⟨tx, ed, rfl, ht, he, hP⟩ := hF
  refine ps_cut (c := sC K) (fun ρ1 (g1 : Store) => g1 = g ∧ isContent tx = true ∧ ρ1 = [some (.d tx), some (.d ed)]) ?_ ?_
  · have no : isContent tx = false → P (.d (.tuple [.str "text", .none])) g := fun h => by
      unfold dueD at hP
      rw [if_pos h] at hP
      exact hP
    cases tx with
    | none =>
      walk_at "ds"
      exact ⟨rfl, rfl, rfl⟩
    | str z =>
      walk_at "ds"
      refine ite_b (fun hb => ?_) (fun hb => ?_)
      · walk_at "ds"
        exact no (by simpa [isContent] using hb)
      · walk_at "ds"
        exact ⟨rfl, by simpa [isContent] using hb, rfl⟩
    | _ =>
      walk_at "ds"
      exact no rfl
  · rintro ρ1 g1 ⟨rfl, hc, rfl⟩
    walk_at "ds"
    refine ite_b (fun hb => ?_) (fun hb => ?_)
    · walk_at "ds"
      have e1 : isEdit ed = false := by simpa using hb
      have e2 : dueD tx ed = .tuple [.str "edit", .none] := by
        unfold dueD
        rw [hc, show isPlainE ed = false by unfold isPlainE; rw [e1]; rfl]; rfl
      rw [e2] at hP
      exact hP
    · obtain ⟨e, rfl, ho⟩ := edit_of (d := ed) (by simpa using hb)
      have pl : e.plain = false → P (.d (.tuple [.str "edit", .none])) g1 := fun h => by
        have e2 : dueD tx e.D = .tuple [.str "edit", .none] := by
          unfold dueD
          rw [hc, plainE_is ho, h]; rfl
        rw [e2] at hP
        exact hP
      have pd : e.plain = true → P (.d (doneD tx e)) g1 := fun h => by
        rw [due_plain hc ho h] at hP
        exact hP
      clear hP he hb
      cases e with
      | put z =>
        rw [show (Ed.put z).D = .tuple [.str "put", .str z] from rfl]
        walk_at "ds"
        refine pv_lst2 ?_
        walk_at "ds"
        refine o_inLs ["take", "adopt", "drop"] rfl ?_
        refine ⟨_, rfl, ?_⟩
        refine ite_f (by decide +kernel) ?_
        walk_at "ds"
        exact use_FL rfl ⟨tx, _, rfl, hc, ho, rfl, pd rfl⟩
      | splice a b z =>
        rw [show (Ed.splice a b z).D = .tuple [.str "splice", .int a, .int b, .str z] from rfl]
        walk_at "ds"
        refine pv_lst2 ?_
        walk_at "ds"
        refine o_inLs ["take", "adopt", "drop"] rfl ?_
        refine ⟨_, rfl, ?_⟩
        refine ite_f (by decide +kernel) ?_
        walk_at "ds"
        exact use_FL rfl ⟨tx, _, rfl, hc, ho, rfl, pd rfl⟩
      | remove =>
        rw [show (Ed.remove).D = .tuple [.str "remove"] from rfl]
        walk_at "ds"
        refine pv_lst2 ?_
        walk_at "ds"
        refine o_inLs ["take", "adopt", "drop"] rfl ?_
        refine ⟨_, rfl, ?_⟩
        refine ite_f (by decide +kernel) ?_
        walk_at "ds"
        exact use_FL rfl ⟨tx, _, rfl, hc, ho, rfl, pd rfl⟩
      | take z =>
        rw [show (Ed.take z).D = .tuple [.str "take", .str z] from rfl]
        walk_at "ds"
        refine pv_lst2 ?_
        walk_at "ds"
        refine o_inLs ["take", "adopt", "drop"] rfl ?_
        refine ⟨_, rfl, ?_⟩
        refine ite_t (by decide +kernel) ?_
        walk_at "ds"
        exact pl rfl
      | adopt a b =>
        rw [show (Ed.adopt a b).D = .tuple [.str "adopt", .int a, .int b] from rfl]
        walk_at "ds"
        refine pv_lst2 ?_
        walk_at "ds"
        refine o_inLs ["take", "adopt", "drop"] rfl ?_
        refine ⟨_, rfl, ?_⟩
        refine ite_t (by decide +kernel) ?_
        walk_at "ds"
        exact pl rfl
      | drop a b =>
        rw [show (Ed.drop a b).D = .tuple [.str "drop", .int a, .int b] from rfl]
        walk_at "ds"
        refine pv_lst2 ?_
        walk_at "ds"
        refine o_inLs ["take", "adopt", "drop"] rfl ?_
        refine ⟨_, rfl, ?_⟩
        refine ite_t (by decide +kernel) ?_
        walk_at "ds"
        exact pl rfl
end Pr
set_option Elab.async false
set_option linter.all false
set_option autoImplicit false
set_option maxRecDepth 100000
set_option maxHeartbeats 4000000
set_option pp.maxSteps 500
namespace Pr
open PySem PySem.Spec PyProof.Rows L2 Dl
local macro_rules | `(tactic| walk_at "dl1") => `(tactic| first
  | ((with_reducible show PSt _ _ _ _ _ _); first
    | (with_reducible refine ps_seq ?_)
    | (with_reducible refine ps_ret ?_)
    | (with_reducible refine ps_if ?_)
    | (with_reducible refine ps_set ?_)
    | (with_reducible refine ps_next ?_)
    | (with_reducible refine ps_drop ?_))
  | ((with_reducible show PV _ _ _ _ _); first
    | ((with_reducible refine' pv_var ?k1 ?_); (case k1 => rfl))
    | (with_reducible refine pv_int ?_)
    | (with_reducible refine pv_str ?_)
    | (with_reducible refine pv_bl ?_)
    | (with_reducible refine pv_non ?_)
    | (with_reducible refine pv_and ?_)
    | (with_reducible refine pv_or ?_)
    | (with_reducible refine pv_not ?_)
    | (with_reducible refine pv_if ?_)
    | (with_reducible refine pv_op ?_)
    | (with_reducible refine pv_un ?_)
    | (with_reducible refine pv_chain ?_)
    | (with_reducible refine pv_tup ?_)
    | (with_reducible refine pv_lst2 ?_)
    | (with_reducible refine pv_call ?_)
    | (with_reducible refine pv_allT ?_)
    | (with_reducible refine pv_allS ?_)
    | (with_reducible refine pv_allR ?_)
    | (with_reducible refine pv_lcT ?_)
    | (with_reducible refine pv_lcL ?_)
    | (with_reducible refine pv_lcTF ?_)
    | (with_reducible refine pv_listRg2 ?_)
    | (with_reducible refine pv_cb ?_)
    | (with_reducible refine pv_sl ?_)
    | ((with_reducible refine' pv_const ?k1 ?_); (case k1 => assumption))
    | ((with_reducible refine' pv_constR ?k1 ?_); (case k1 => assumption))
    | (with_reducible refine pv_raw ?_))
  | ((with_reducible show O2 _ _ _ _ _ _); first
    | (with_reducible refine o_add ?_)
    | (with_reducible refine o_ii ?_)
    | (with_reducible refine o_ib ?_)
    | (with_reducible refine o_le ?_)
    | (with_reducible refine o_lt ?_)
    | (with_reducible refine o_eqI ?_)
    | (with_reducible refine o_neI ?_)
    | (with_reducible refine o_eqS ?_)
    | (with_reducible refine o_eqB ?_)
    | (with_reducible refine o_neB ?_)
    | (with_reducible refine o_leS ?_)
    | (with_reducible refine o_inS ?_)
    | ((with_reducible refine' o_isN ?k1 ?_); (case k1 => rfl))
    | ((with_reducible refine' o_notN ?k1 ?_); (case k1 => rfl))
    | (with_reducible refine o_isntB ?_)
    | ((with_reducible refine' o_ixT ?k1 ?_); (case k1 => first | exact at0 | exact at1 | exact atI_nat (j := 2) rfl | exact atI_nat (j := 3) rfl | exact atI_nat (j := 4) rfl | exact atI_nat (j := 5) rfl | exact atI_nat (j := 6) rfl | rfl)))
  | ((with_reducible show OC _ _ _ _ _); first
    | (with_reducible refine oc_isi (isT_int _) ?_)
    | (with_reducible refine oc_isi (isT_bool _) ?_)
    | (with_reducible refine oc_isi (isT_str _) ?_)
    | (with_reducible refine oc_isi (isT_tuple _) ?_)
    | (with_reducible refine oc_isi (isT_list _) ?_)
    | (with_reducible refine oc_lenT ?_)
    | (with_reducible refine oc_lenL ?_)
    | (with_reducible refine oc_lenR ?_)
    | ((with_reducible refine oc_lenS ?k1 ?_); (case k1 => assumption)))
  | ((with_reducible show PAs _ _ _ _ _); first
    | (with_reducible refine pas_nil ?_)
    | (with_reducible refine pas_cons ?_))
  | ((with_reducible show PB _ _ _ _ _); first
    | (with_reducible refine pb_test' ?_)
    | (with_reducible refine pb_B ?_)
    | (with_reducible refine pb_and ?_)
    | (with_reducible refine pb_or ?_)
    | (with_reducible refine pb_not ?_))
  | ((with_reducible show PPart _ _ _ _ _); first
    | (with_reducible refine pp_none ?_)
    | (with_reducible refine pp_some ?_))
  | ((with_reducible show OSl _ _ _ _ _ _ _); first
    | (with_reducible refine os_tup ?_))
  | ((with_reducible refine ite_t ?k1 ?_); (case k1 => rfl))
  | ((with_reducible refine ite_f ?k1 ?_); (case k1 => rfl))
  | ((with_reducible refine use_FJ ?k1 ?_); (case k1 => first | rfl | assumption))
  | (with_reducible refine use_is_between ?_)
  | (with_reducible refine use_is_tuple_of ?_)
  | (refine Or.inl (Exists.intro _ (And.intro rfl (And.intro (le_line (Nat.le_of_ble_eq_true rfl)) ?_))))
  | (refine Or.inr (Exists.intro _ (And.intro rfl (And.intro (le_line (Nat.le_of_ble_eq_true rfl)) ?_))))
  | (with_reducible refine Exists.intro _ (And.intro rfl ?_))
  | ((with_reducible refine And.intro ?k1 ?_); (case k1 => exact le_line (Nat.le_of_ble_eq_true rfl))))
local macro_rules | `(tactic| walk_at "dl") => `(tactic| repeat walk_at "dl1")
variable {P : Program} {w : World} {K : PySem.W.Frag} {mg : Str → Option Value} {base : Heap}
theorem ok__law_alike0 {f : Addr} {fd : FuncData} (F : Fun K "_law_alike" "_law_alike" s__law_alike f fd) : FnOk P w K mg base CX0 1 f fd ["_law_told_here", "_law_due_here"] (SpF K (F_alikeC 0)) := by
  refine F.ok sc__law_alike (fun vs H Q E h => ?_) (fun cdv A outer s H vs Q E hr h => ?_)
  · exact lenF h fun c g es P h => h.1
  · obtain ⟨c, I, g, es, P, rfl, ok, r, ⟨-, d, -, -, hd, -⟩, k⟩ := h
    exact absurd hd (Nat.not_lt_zero _)
theorem ok__law_alike {f : Addr} {fd : FuncData} (F : Fun K "_law_alike" "_law_alike" s__law_alike f fd)  {k0 : Nat} (B : Blt mg) {f__law_alike : Addr} {fd__law_alike : FuncData} {ps__law_alike : List Str} (D__law_alike : L2.Def P w K mg base (k0+1) "_law_alike" f__law_alike fd__law_alike ps__law_alike (SpF K (F_alikeC k0)))  : FnOk P w K mg base CX0 (k0+2) f fd ["_law_told_here", "_law_due_here"] (SpF K (F_alikeC (k0+1))) := by
  refine F.ok sc__law_alike (fun vs H Q E h => ?_) (fun cdv A outer s H vs Q E hr h => ?_)
  · exact lenF h fun c g es P h => h.1
  obtain ⟨c, I, g, es, P, rfl, ok, r, hF, k⟩ := h
  have nd := sc__law_alike.nd
  have hu := hr.units
  have hu1 := hu_of hr
  refine ⟨_, (pss_cons (L2.ps_if (pt_val (pe_callB (cr_isi (K := c.K)) (by rfl) B.isinstance_ (by decide +kernel) (pa_cons (pv 1) (pa_cons (pe_bltn (v := .ty "tuple") (by rfl) B.tuple_ PyProof.Rows.boot_tuple rfl) pa_nil)))) (pss_cons (L2.ps_if (PW.pt (pw_or (pt_not (pt_val (pe_callB (cr_isi (K := c.K)) (by rfl) B.isinstance_ (by decide +kernel) (pa_cons (pv 0) (pa_cons (pe_bltn (v := .ty "tuple") (by rfl) B.tuple_ PyProof.Rows.boot_tuple rfl) pa_nil))))) (pw_or1 (pt_cmpR (op_zne (K := c.K) hu) (pe_callB (cr_len (K := c.K)) (by rfl) B.len_ PySem.boot_len (pa_cons (pv 0) pa_nil)) (pe_callB (cr_len (K := c.K)) (by rfl) B.len_ PySem.boot_len (pa_cons (pv 1) pa_nil)) (nomark _))))) (pss_one (L2.ps_ret pe_bl)) pss_nil)
      (pss_one (L2.ps_ret (pe_callB (cr_allZ (K := c.K) rfl) (by rfl) B.all_ (by decide +kernel) (pa_cons (pe_lc (own := [("_law_k", 2)]) (g := gName 2) (tt := tYes) rfl nd (pi_range1 rfl B.range_ (pa_cons (pe_callB (cr_len (K := c.K)) (by rfl) B.len_ PySem.boot_len (pa_cons (pv 1) pa_nil)) pa_nil)) (blkOk_by (N := ["_law_told_here", "_law_due_here", "_law_k"]) (sc := defScope s__law_alike) (by decide +kernel)) (fun _ _ _ _ _ => pg_name (i := 2) nd rfl (Or.inl rfl)) (fun _ _ _ _ _ => pts_nil) (fun _ _ _ _ _ => (pe_call D__law_alike.ok (hr.mono (by first | decide | omega)) rfl D__law_alike.at_ D__law_alike.kp D__law_alike.bd .nil pass0 (pa_cons (pe_ix (ix_z (K := c.K) (w := w)) (pv 0) (pv 2) (fun _ _ => rfl)) (pa_cons (pe_ix (ix_z (K := c.K) (w := w)) (pv 1) (pv 2) (fun _ _ => rfl)) pa_nil))))) pa_nil))))) pss_nil)
      (pss_cons (L2.ps_if (pt_cmpR op_isN (pv 1) pe_non (nomark _)) (pss_one (L2.ps_ret (pe_cmpR op_isN (pv 0) pe_non (nomark _)))) pss_nil)
      (pss_cons (L2.ps_if (pt_val (pe_callB (cr_isi (K := c.K)) (by rfl) B.isinstance_ (by decide +kernel) (pa_cons (pv 1) (pa_cons (pe_bltn (v := .ty "str") (by rfl) B.str_ PyProof.Rows.boot_str rfl) pa_nil)))) (pss_one (L2.ps_ret (pe_and (pe_callB (cr_isi (K := c.K)) (by rfl) B.isinstance_ (by decide +kernel) (pa_cons (pv 0) (pa_cons (pe_bltn (v := .ty "str") (by rfl) B.str_ PyProof.Rows.boot_str rfl) pa_nil))) (pe_one (pe_cmpR (op_zeq (K := c.K) hu) (pv 0) (pv 1) (nomark _)))))) pss_nil)
      (pss_one (L2.ps_ret (pe_and (pe_callB (cr_isi (K := c.K)) (by rfl) B.isinstance_ (by decide +kernel) (pa_cons (pv 0) (pa_cons (pe_bltn (v := .ty "int") (by rfl) B.int_ PyProof.Rows.boot_int rfl) pa_nil))) (pe_and (pe_not (pe_callB (cr_isi (K := c.K)) (by rfl) B.isinstance_ (by decide +kernel) (pa_cons (pv 0) (pa_cons (pe_bltn (v := .ty "bool") (by rfl) B.bool_ PyProof.Rows.boot_bool rfl) pa_nil)))) (pe_one (pe_cmpR (op_zeq (K := c.K) hu) (pv 0) (pv 1) (nomark _)))))))))), body_run ok r k ?_⟩
  obtain ⟨-, d, rfl, hc, -, hP⟩ := hF
  rcases content_of hc with rfl | ⟨z, rfl, hz⟩
  · walk_at "dl"
    exact hP
  · walk_at "dl"
    exact fin hP (by simp)
end Pr
set_option Elab.async false
set_option linter.all false
set_option autoImplicit false
set_option maxRecDepth 100000
set_option maxHeartbeats 4000000
set_option pp.maxSteps 500
namespace Pr
open PySem PySem.Spec PyProof.Rows L2 Dl
local macro_rules | `(tactic| walk_at "ds1") => `(tactic| first
  | ((with_reducible show PSt _ _ _ _ _ _); first
    | (with_reducible refine ps_seq ?_)
    | (with_reducible refine ps_ret ?_)
    | (with_reducible refine ps_if ?_)
    | (with_reducible refine ps_set ?_)
    | (with_reducible refine ps_next ?_)
    | (with_reducible refine ps_drop ?_)
    | (with_reducible refine ps_setix ?_))
  | ((with_reducible show PV _ _ _ _ _); first
    | ((with_reducible refine' pv_var ?k1 ?_); (case k1 => rfl))
    | (with_reducible refine pv_int ?_)
    | (with_reducible refine pv_str ?_)
    | (with_reducible refine pv_bl ?_)
    | (with_reducible refine pv_non ?_)
    | (with_reducible refine pv_and ?_)
    | (with_reducible refine pv_or ?_)
    | (with_reducible refine pv_not ?_)
    | (with_reducible refine pv_if ?_)
    | (with_reducible refine pv_op ?_)
    | (with_reducible refine pv_un ?_)
    | (with_reducible refine pv_chain ?_)
    | (with_reducible refine pv_tup ?_)
    | (with_reducible refine pv_call ?_)
    | (with_reducible refine pv_allT ?_)
    | (with_reducible refine pv_allS ?_)
    | (with_reducible refine pv_allR ?_)
    | (with_reducible refine pv_lcT ?_)
    | (with_reducible refine pv_lcL ?_)
    | (with_reducible refine pv_lcTF ?_)
    | (with_reducible refine pv_listRg2 ?_)
    | (with_reducible refine pv_cb ?_)
    | (with_reducible refine pv_sl ?_)
    | (with_reducible refine pv_dget ?_)
    | ((with_reducible refine' pv_const ?k1 ?_); (case k1 => assumption))
    | (with_reducible refine pv_raw ?_))
  | ((with_reducible show O2 _ _ _ _ _ _); first
    | (with_reducible refine o_add ?_)
    | ((with_reducible refine' o_iic ?k1 ?_); (case k1 => first | (show (0 : Int) < _; first | decide | assumption | omega) | exact Or.inr ⟨by decide, by decide⟩ | exact Or.inl ⟨by decide, by decide⟩))
    | (with_reducible refine o_ii ?_)
    | (with_reducible refine o_ib ?_)
    | (with_reducible refine o_le ?_)
    | (with_reducible refine o_lt ?_)
    | (with_reducible refine o_eqI ?_)
    | (with_reducible refine o_neI ?_)
    | (with_reducible refine o_eqS ?_)
    | (with_reducible refine o_eqB ?_)
    | (with_reducible refine o_neB ?_)
    | (with_reducible refine o_leS ?_)
    | (with_reducible refine o_inS ?_)
    | ((with_reducible refine' o_isN ?k1 ?_); (case k1 => rfl))
    | ((with_reducible refine' o_notN ?k1 ?_); (case k1 => rfl))
    | (with_reducible refine o_isntB ?_)
    | ((with_reducible refine' o_ixM ?k1 ?k2 ?_); (case k1 => first | assumption | exact put_same); (case k2 => first | exact at0 | exact at1 | exact atI_nat (j := 2) rfl | exact atI_nat (j := 3) rfl | exact atI_nat (j := 4) rfl))
    | ((with_reducible refine' o_ixT ?k1 ?_); (case k1 => first | exact at0 | exact at1 | exact atI_nat (j := 2) rfl | exact atI_nat (j := 3) rfl | exact atI_nat (j := 4) rfl | exact atI_nat (j := 5) rfl | exact atI_nat (j := 6) rfl | rfl)))
  | ((with_reducible show OC _ _ _ _ _); first
    | (with_reducible refine oc_isi (isT_int _) ?_)
    | (with_reducible refine oc_isi (isT_bool _) ?_)
    | (with_reducible refine oc_isi (isT_str _) ?_)
    | (with_reducible refine oc_isi (isT_tuple _) ?_)
    | (with_reducible refine oc_isi (isT_list _) ?_)
    | (with_reducible refine oc_lenT ?_)
    | (with_reducible refine oc_lenL ?_)
    | (with_reducible refine oc_lenR ?_)
    | (with_reducible refine oc_int ?_)
    | (with_reducible refine oc_abs ?_)
    | ((with_reducible refine oc_lenS ?k1 ?_); (case k1 => assumption)))
  | ((with_reducible show PAs _ _ _ _ _); first
    | (with_reducible refine pas_nil ?_)
    | (with_reducible refine pas_cons ?_))
  | ((with_reducible show PB _ _ _ _ _); first
    | (with_reducible refine pb_test' ?_)
    | (with_reducible refine pb_B ?_)
    | (with_reducible refine pb_and ?_)
    | (with_reducible refine pb_or ?_)
    | (with_reducible refine pb_not ?_))
  | ((with_reducible show PPart _ _ _ _ _); first
    | (with_reducible refine pp_none ?_)
    | (with_reducible refine pp_some ?_))
  | ((with_reducible show O1 _ _ _ _ _); first
    | (with_reducible refine o_neg ?_))
  | ((with_reducible show OSl _ _ _ _ _ _ _); first
    | (with_reducible refine os_lst ?_)
    | (with_reducible refine os_tup ?_))
  | ((with_reducible refine ite_t ?k1 ?_); (case k1 => rfl))
  | ((with_reducible refine ite_f ?k1 ?_); (case k1 => rfl))
  | ((with_reducible refine use_FJ ?k1 ?_); (case k1 => first | rfl | assumption))
  | (with_reducible refine use_is_between ?_)
  | (with_reducible refine use_is_tuple_of ?_)
  | (refine Or.inl (Exists.intro _ (And.intro rfl (And.intro (le_line (Nat.le_of_ble_eq_true rfl)) ?_))))
  | (refine Or.inr (Exists.intro _ (And.intro rfl (And.intro (le_line (Nat.le_of_ble_eq_true rfl)) ?_))))
  | (with_reducible refine Exists.intro _ (And.intro rfl ?_))
  | ((with_reducible refine And.intro ?k1 ?_); (case k1 => exact le_line (Nat.le_of_ble_eq_true rfl))))
local macro_rules | `(tactic| walk_at "ds") => `(tactic| repeat walk_at "ds1")
variable {P : Program} {w : World} {K : PySem.W.Frag} {mg : Str → Option Value} {base : Heap}
theorem ok__law_plain {f : Addr} {fd : FuncData} (F : Fun K "_law_plain" "_law_plain" s__law_plain f fd)   (B : Blt mg) {f__law_draw : Addr} {fd__law_draw : FuncData} {ps__law_draw : List Str} (D__law_draw : L2.Def P w K mg base 3 "_law_draw" f__law_draw fd__law_draw ps__law_draw (SpF K FW_draw)) {f__law_text : Addr} {fd__law_text : FuncData} {ps__law_text : List Str} (D__law_text : L2.Def P w K mg base 5 "_law_text" f__law_text fd__law_text ps__law_text (SpF K (FWd drawnText))) {f__law_string : Addr} {fd__law_string : FuncData} {ps__law_string : List Str} (D__law_string : L2.Def P w K mg base 4 "_law_string" f__law_string fd__law_string ps__law_string (SpF K FW_string))  : FnOk P w K mg base CX0 6 f fd ["_law_well_here", "_law_text_here"] (SpF K FW_plain) := by
  refine F.ok sc__law_plain (fun vs H Q E h => ?_) (fun cdv A outer s H vs Q E hr h => ?_)
  · exact lenF h fun c g es P h => h.1
  obtain ⟨I, g, es, P, ok, r, hF, k⟩ := spFL h
  have nd := sc__law_plain.nd
  have hu := hr.units
  have hu1 := hu_of hr
  refine ⟨_, (pss_cons (L2.ps_set (i := 2) nd rfl (by first | exact Or.inl rfl | exact Or.inr rfl | exact Or.inr (Or.inl rfl)) pe_int)
      (pss_cons (L2.ps_if (pt_cmpR op_notN (pv 1) pe_non (nomark _)) (pss_one (L2.ps_set (i := 2) nd rfl (by first | exact Or.inl rfl | exact Or.inr rfl | exact Or.inr (Or.inl rfl)) (pe_callB (cr_len (K := (sC K).K)) (by rfl) B.len_ PySem.boot_len (pa_cons (pv 1) pa_nil)))) pss_nil)
      (pss_cons (L2.ps_set (i := 3) nd rfl (by first | exact Or.inl rfl | exact Or.inr rfl | exact Or.inr (Or.inl rfl)) (pe_call D__law_draw.ok (hr.mono (by first | decide | omega)) rfl D__law_draw.at_ D__law_draw.kp D__law_draw.bd .nil pass0 (pa_cons (pv 0) (pa_cons pe_int pa_nil))))
      (pss_cons (L2.ps_if (pt_cmpR (op_zeq (K := (sC K).K) hu) (pv 3) pe_int (nomark _)) (pss_one (L2.ps_ret (pe_tup (pa_cons pe_str (pa_cons (pe_call D__law_text.ok (hr.mono (by first | decide | omega)) rfl D__law_text.at_ D__law_text.kp D__law_text.bd .nil pass0 (pa_cons (pv 0) pa_nil)) pa_nil))))) pss_nil)
      (pss_cons (L2.ps_if (pt_cmpR (op_zeq (K := (sC K).K) hu) (pv 3) pe_int (nomark _)) (pss_one (L2.ps_ret (pe_tup (pa_cons pe_str pa_nil)))) pss_nil)
      (pss_cons (L2.ps_set (i := 4) nd rfl (by first | exact Or.inl rfl | exact Or.inr rfl | exact Or.inr (Or.inl rfl)) (pe_call D__law_draw.ok (hr.mono (by first | decide | omega)) rfl D__law_draw.at_ D__law_draw.kp D__law_draw.bd .nil pass0 (pa_cons (pv 0) (pa_cons (pe_op (op_zadd (K := (sC K).K)) (pv 2) pe_int) pa_nil))))
      (pss_cons (L2.ps_set (i := 5) nd rfl (by first | exact Or.inl rfl | exact Or.inr rfl | exact Or.inr (Or.inl rfl)) (pe_call D__law_draw.ok (hr.mono (by first | decide | omega)) rfl D__law_draw.at_ D__law_draw.kp D__law_draw.bd .nil pass0 (pa_cons (pv 0) (pa_cons (pe_op (op_zadd (K := (sC K).K)) (pe_op op_sub (pv 2) (pv 4)) pe_int) pa_nil))))
      (pss_cons (L2.ps_set (i := 6) nd rfl (by first | exact Or.inl rfl | exact Or.inr rfl | exact Or.inr (Or.inl rfl)) (pe_op op_sub pe_int (pe_op op_sub (pv 2) (pv 5))))
      (pss_cons (L2.ps_set (i := 7) nd rfl (by first | exact Or.inl rfl | exact Or.inr rfl | exact Or.inr (Or.inl rfl)) (pe_ix (ix_z (K := (sC K).K) (w := w)) (pe_lst (pa_cons (pe_call D__law_draw.ok (hr.mono (by first | decide | omega)) rfl D__law_draw.at_ D__law_draw.kp D__law_draw.bd .nil pass0 (pa_cons (pv 0) (pa_cons (pe_op (op_zadd (K := (sC K).K)) (pv 6) pe_int) pa_nil))) (pa_cons (pe_call D__law_draw.ok (hr.mono (by first | decide | omega)) rfl D__law_draw.at_ D__law_draw.kp D__law_draw.bd .nil pass0 (pa_cons (pv 0) (pa_cons pe_int pa_nil))) (pa_cons (pv 6) (pa_cons (pe_op (op_zadd (K := (sC K).K)) (pv 6) pe_int) pa_nil))))) (pe_call D__law_draw.ok (hr.mono (by first | decide | omega)) rfl D__law_draw.at_ D__law_draw.kp D__law_draw.bd .nil pass0 (pa_cons (pv 0) (pa_cons pe_int pa_nil))) (fun _ _ => rfl)))
      (pss_cons (L2.ps_if (pt_cmpR (op_zeq (K := (sC K).K) hu) (pv 3) pe_int (nomark _)) (pss_one (L2.ps_set (i := 5) nd rfl (by first | exact Or.inl rfl | exact Or.inr rfl | exact Or.inr (Or.inl rfl)) (pe_op (op_zadd (K := (sC K).K)) (pe_op (op_zadd (K := (sC K).K)) (pe_op op_sub (pv 2) (pv 4)) pe_int) (pe_call D__law_draw.ok (hr.mono (by first | decide | omega)) rfl D__law_draw.at_ D__law_draw.kp D__law_draw.bd .nil pass0 (pa_cons (pv 0) (pa_cons pe_int pa_nil)))))) pss_nil)
      (pss_one (L2.ps_ret (pe_tup (pa_cons pe_str (pa_cons (pv 4) (pa_cons (pv 5) (pa_cons (pe_call D__law_string.ok (hr.mono (by first | decide | omega)) rfl D__law_string.at_ D__law_string.kp D__law_string.bd .nil pass0 (pa_cons (pv 0) (pa_cons (pe_callB (cr_min2' rfl) (by rfl) B.min_ (by decide +kernel) (pa_cons (pv 7) (pa_cons pe_int pa_nil))) pa_nil))) pa_nil))))))))))))))))), body_run ok r k ?_⟩
  obtain ⟨p, tx, rfl, hc, hW, hP⟩ := hF
  refine ps_cut (c := sC K) (fun ρ1 (g1 : Store) => g1 = g ∧ ∃ n : Int, 0 ≤ n ∧ n ≤ 96 ∧ ρ1 = [some (.r (.ref p)), some (.d tx), some (.d (.int n)), none, none, none, none, none]) ?_ ?_
  · walk_at "ds"
    exact ⟨rfl, 0, by decide, by decide, rfl⟩
  rintro ρ1 g1 ⟨rfl, n, n0, n1, rfl⟩
  refine ps_cut (c := sC K) (fun ρ1 (g2 : Store) => g2 = g1 ∧ ∃ n : Int, 0 ≤ n ∧ n ≤ 96 ∧ ρ1 = [some (.r (.ref p)), some (.d tx), some (.d (.int n)), none, none, none, none, none]) ?_ ?_
  · rcases content_of hc with rfl | ⟨t, rfl, ht⟩
    · walk_at "ds"
      exact ⟨rfl, n, n0, n1, rfl⟩
    · have hl := len_text ht
      have htL : t.length ≤ sizeLine := le_line (by omega)
      walk_at "ds"
      exact ⟨rfl, _, by omega, by omega, rfl⟩
  rintro ρ1 g2 ⟨rfl, n, n0, n1, rfl⟩
  refine Dl.ps_seq (Dl.ps_set ?_)
  walk_at "ds"
  refine use_FL rfl ⟨p, _, rfl, by decide, by decide, hW, fun g1 k hW1 hk1 k0 k1 => ?_⟩
  walk_at "ds"
  refine ite_b (fun hb => ?_) (fun hb => ?_)
  · walk_at "ds"
    refine use_FL rfl ⟨p, rfl, hW1, fun g3 d hW3 hk3 hd => ?_⟩
    obtain ⟨z, rfl, hz⟩ := hd
    walk_at "ds"
    obtain ⟨q1, q2, q3⟩ := ed_small (e := .put z) hz.ok rfl (fun a b z h => by cases h)
    exact hP g3 (.put z) hW3 (hk1.trans hk3) hz.ok rfl q1 q2 q3
  walk_at "ds"
  refine ite_b (fun hb => ?_) (fun hb => ?_)
  · walk_at "ds"
    obtain ⟨q1, q2, q3⟩ := ed_small (e := .remove) trivial rfl (fun a b z h => by cases h)
    exact hP g1 .remove hW1 hk1 trivial rfl q1 q2 q3
  walk_at "ds"
  refine use_FL rfl ⟨p, _, rfl, by omega, by omega, hW1, fun g3 a hW3 hk3 a0 a1 => ?_⟩
  walk_at "ds"
  refine use_FL rfl ⟨p, _, rfl, by omega, by omega, hW3, fun g4 b hW4 hk4 b0 b1 => ?_⟩
  walk_at "ds"
  refine pv_lst2 ?_
  walk_at "ds"
  refine use_FL rfl ⟨p, _, rfl, by omega, by omega, hW4, fun g5 m1 hW5 hk5 c0 c1 => ?_⟩
  walk_at "ds"
  refine use_FL rfl ⟨p, _, rfl, by omega, by omega, hW5, fun g6 m2 hW6 hk6 d0 d1 => ?_⟩
  walk_at "ds"
  refine use_FL rfl ⟨p, _, rfl, by omega, by omega, hW6, fun g7 j hW7 hk7 j0 j1 => ?_⟩
  obtain ⟨x, hx, hm⟩ := atI_some (xs := [PyData.int m1, .int m2, .int (96 - (n - b)), .int (96 - (n - b) + 1)]) (i := j) j0 (by simp only [List.length_cons, List.length_nil]; omega)
  refine o_ixL hx ?_
  obtain ⟨N, rfl, N0, N1⟩ : ∃ N : Int, x = .int N ∧ 0 ≤ N ∧ N ≤ 97 := by
    simp only [List.mem_cons, List.not_mem_nil, or_false] at hm
    rcases hm with rfl | rfl | rfl | rfl <;> exact ⟨_, rfl, by omega, by omega⟩
  have hkA : Kept g2 g7 p := ((((hk1.trans hk3).trans hk4).trans hk5).trans hk6).trans hk7
  refine ps_cut (c := sC K) (fun ρ1 (g8 : Store) => WellIs g8 p ∧ Kept g2 g8 p ∧ ∃ (b' : Int), 0 ≤ b' ∧ b' ≤ 1000 ∧ ∃ e3 e6 : Option EV, ρ1 = [some (.r (.ref p)), some (.d tx), some (.d (.int n)), e3, some (.d (.int a)), some (.d (.int b')), e6, some (.d (.int N))]) ?_ ?_
  · walk_at "ds"
    refine ite_b (fun hb => ?_) (fun hb => ?_)
    · walk_at "ds"
      refine use_FL rfl ⟨p, _, rfl, by omega, by omega, hW7, fun g8 r hW8 hk8 r0 r1 => ?_⟩
      walk_at "ds"
      exact ⟨hW8, hkA.trans hk8, _, by omega, by omega, _, _, rfl⟩
    · walk_at "ds"
      exact ⟨hW7, hkA, b, by omega, by omega, _, _, rfl⟩
  rintro ρ1 g8 ⟨hW8, hk8, b', b0', b1', e3, e6, rfl⟩
  walk_at "ds"
  refine oc_min2 ?_
  walk_at "ds"
  refine use_FL rfl ⟨p, _, rfl, by split <;> omega, by split <;> omega, hW8, fun g9 z hW9 hk9 hz hs => ?_⟩
  have hl : z.length ≤ 96 := by split at hz <;> omega
  walk_at "ds"
  have ho : (Ed.splice a b' z).Ok := ⟨a0, b0', text_of hs hl⟩
  obtain ⟨q1, q2, q3⟩ := ed_small (e := .splice a b' z) ho rfl (fun a b z h => by cases h; omega)
  exact hP g9 (.splice a b' z) hW9 (hk8.trans hk9) ho rfl q1 q2 q3
theorem ok__law_is_back {f : Addr} {fd : FuncData} (F : Fun K "_law_is_back" "_law_is_back" s__law_is_back f fd)   (B : Blt mg) {f__law_told : Addr} {fd__law_told : FuncData} {ps__law_told : List Str} (D__law_told : L2.Def P w K mg base 8 "_law_told" f__law_told fd__law_told ps__law_told (SpF K F_told2))  : FnOk P w K mg base CX0 9 f fd ["_law_text_here", "_law_edit_here", "_law_told_here"] (SpF K FW_back) := by
  refine F.ok sc__law_is_back (fun vs H Q E h => ?_) (fun cdv A outer s H vs Q E hr h => ?_)
  · exact lenF h fun c g es P h => h.1
  obtain ⟨I, g, es, P, ok, r, hF, k⟩ := spFL h
  have nd := sc__law_is_back.nd
  have hu := hr.units
  have hu1 := hu_of hr
  refine ⟨_, (pss_cons (L2.ps_set (i := 3) nd rfl (by first | exact Or.inl rfl | exact Or.inr rfl | exact Or.inr (Or.inl rfl)) (pe_slice (sl_z (K := (sC K).K)) (pv 0) (po_some (pe_ix (ix_z (K := (sC K).K) (w := w)) (pv 1) pe_int (fun _ _ => rfl))) (po_some (pe_op (op_zadd (K := (sC K).K)) (pe_ix (ix_z (K := (sC K).K) (w := w)) (pv 1) pe_int (fun _ _ => rfl)) (pe_ix (ix_z (K := (sC K).K) (w := w)) (pv 1) pe_int (fun _ _ => rfl))))))
      (pss_cons (L2.ps_if (pt_cmpR (op_zne (K := (sC K).K) hu) (pe_call D__law_told.ok (hr.mono (by first | decide | omega)) rfl D__law_told.at_ D__law_told.kp D__law_told.bd .nil pass0 (pa_cons (pv 2) (pa_cons (pe_tup (pa_cons pe_str (pa_cons (pe_ix (ix_z (K := (sC K).K) (w := w)) (pv 1) pe_int (fun _ _ => rfl)) (pa_cons (pe_callB (cr_len (K := (sC K).K)) (by rfl) B.len_ PySem.boot_len (pa_cons (pe_ix (ix_z (K := (sC K).K) (w := w)) (pv 1) pe_int (fun _ _ => rfl)) pa_nil)) (pa_cons (pv 3) pa_nil))))) pa_nil))) (pe_tup (pa_cons pe_str (pa_cons (pv 0) pa_nil))) (nomark _)) (pss_one (L2.ps_ret pe_bl)) pss_nil)
      (pss_cons (L2.ps_set (i := 4) nd rfl (by first | exact Or.inl rfl | exact Or.inr rfl | exact Or.inr (Or.inl rfl)) (pe_call D__law_told.ok (hr.mono (by first | decide | omega)) rfl D__law_told.at_ D__law_told.kp D__law_told.bd .nil pass0 (pa_cons (pv 0) (pa_cons (pe_tup (pa_cons pe_str (pa_cons (pe_ix (ix_z (K := (sC K).K) (w := w)) (pv 1) pe_int (fun _ _ => rfl)) (pa_cons (pe_ix (ix_z (K := (sC K).K) (w := w)) (pv 1) pe_int (fun _ _ => rfl)) (pa_cons pe_str pa_nil))))) pa_nil))))
      (pss_cons (L2.ps_if (pt_cmpR (op_zne (K := (sC K).K) hu) (pe_ix (ix_z (K := (sC K).K) (w := w)) (pv 4) pe_int (fun _ _ => rfl)) pe_str (nomark _)) (pss_one (L2.ps_ret pe_bl)) pss_nil)
      (pss_one (L2.ps_ret (pe_cmpR (op_zeq (K := (sC K).K) hu) (pe_call D__law_told.ok (hr.mono (by first | decide | omega)) rfl D__law_told.at_ D__law_told.kp D__law_told.bd .nil pass0 (pa_cons (pe_ix (ix_z (K := (sC K).K) (w := w)) (pv 4) pe_int (fun _ _ => rfl)) (pa_cons (pe_tup (pa_cons pe_str (pa_cons (pe_ix (ix_z (K := (sC K).K) (w := w)) (pv 1) pe_int (fun _ _ => rfl)) (pa_cons pe_int (pa_cons (pe_ix (ix_z (K := (sC K).K) (w := w)) (pv 1) pe_int (fun _ _ => rfl)) pa_nil))))) pa_nil))) (pe_tup (pa_cons pe_str (pa_cons (pv 2) pa_nil))) (nomark _)))))))), body_run ok r k ?_⟩
  obtain ⟨t, z, a, b, rfl, ht, hz, h1, h2, hP⟩ := hF
  have htl := len_text ht
  have hzl := len_text hz
  have hq := splice_text ht hz h1 h2
  have hql := splice_len (z := z) h1
  have hgo : isText (.str (cutS t (some (a : Int)) (some ((a : Int) + b)))) = true := text_cut ht
  have hgl : (cutS t (some (a : Int)) (some ((a : Int) + b))).length = b := cut_len2 h1
  have he : isText (.str "") = true := by decide +kernel
  have hh := splice_text (a := a) (b := b) ht he h1 (by have : Str.length "" = 0 := by decide +kernel
                                                        omega)
  have hhl : (spliceD t a b "").length = t.length - b := by
    rw [splice_len h1]
    have : Str.length "" = 0 := by decide +kernel
    omega
  have e1 : dueD (.str (spliceD t a b z)) (.tuple [.str "splice", .int a, .int z.length, .str (cutS t (some (a : Int)) (some ((a : Int) + b)))]) = .tuple [.str "told", .str t] := by
    have q := due_plain (tx := .str (spliceD t a b z)) (e := .splice a z.length (cutS t (some (a : Int)) (some ((a : Int) + b)))) hq ⟨by omega, by omega, hgo⟩ rfl
    rw [made_at, if_pos ⟨by omega, by omega⟩, splice_back h1] at q
    exact q
  have e2 : dueD (.str t) (.tuple [.str "splice", .int a, .int b, .str ""]) = .tuple [.str "told", .str (spliceD t a b "")] := by
    have q := due_plain (tx := .str t) (e := .splice a b "") ht ⟨by omega, by omega, he⟩ rfl
    have l0 : Str.length "" = 0 := by decide +kernel
    rw [made_at, if_pos ⟨by omega, by omega⟩] at q
    exact q
  have e3 : dueD (.str (spliceD t a b "")) (.tuple [.str "splice", .int a, .int 0, .str z]) = .tuple [.str "told", .str (spliceD t a b z)] := by
    have q := due_plain (tx := .str (spliceD t a b "")) (e := .splice a 0 z) hh ⟨by omega, by omega, hz⟩ rfl
    rw [made_at, if_pos ⟨by omega, by omega⟩, splice_half h1] at q
    exact q
  have f1 := fit_splice (a := a) (b := z.length) (by omega) (by omega) (by omega) (by omega) hgo
  have f2 := fit_splice (a := a) (b := b) (by omega) (by omega) (by omega) (by omega) he
  have f3 := fit_splice (a := a) (b := 0) (by omega) (by omega) (by omega) (by omega) hz
  have c1 : Cmp (.tuple [.str "told", .str t]) := cmp_word (by decide +kernel) (by decide) ht
  have c2 : Cmp (.tuple [.str "told", .str (spliceD t a b z)]) := cmp_word (by decide +kernel) (by decide) hq
  have r1 := PySem.SeqAt.eqv_refl _ c1.lay
  have r2 := PySem.SeqAt.eqv_refl _ c2.lay
  have hzL : z.length ≤ sizeLine := le_line (by omega)
  have htL : t.length ≤ sizeLine := le_line (by omega)
  rw [show (Ed.splice (a : Int) (b : Int) z).D = .tuple [.str "splice", .int a, .int b, .str z] from rfl]
  refine Dl.ps_seq (Dl.ps_set ?_)
  walk_at "ds"
  refine os_str htL ?_
  walk_at "ds"
  refine ⟨rfl, _, _, rfl, (cmp_text hq).fit, f1, ?_⟩
  rw [e1]
  walk_at "ds"
  refine o_ne c1.fit c1.fit c1.lay c1.lay (Nat.le_trans c1.dep (by decide)) (Nat.le_trans c1.dep (by decide)) ?_
  rw [r1]
  walk_at "ds"
  refine ⟨rfl, _, _, rfl, (cmp_text ht).fit, f2, ?_⟩
  rw [e2]
  walk_at "ds"
  refine o_ne (by decide +kernel) (by decide +kernel) (by decide +kernel) (by decide +kernel) (by decide +kernel) (by decide +kernel) ?_
  refine ⟨_, rfl, ?_⟩
  refine ite_f (by decide +kernel) ?_
  walk_at "ds"
  refine ⟨rfl, _, _, rfl, (cmp_text hh).fit, f3, ?_⟩
  rw [e3]
  walk_at "ds"
  refine o_eq c2.fit c2.fit c2.lay c2.lay (Nat.le_trans c2.dep (by decide)) (Nat.le_trans c2.dep (by decide)) ?_
  rw [r2]
  exact hP
theorem ok__law_odd_text {f : Addr} {fd : FuncData} (F : Fun K "_law_odd_text" "_law_odd_text" s__law_odd_text f fd)   {f__law_draw : Addr} {fd__law_draw : FuncData} {ps__law_draw : List Str} (D__law_draw : L2.Def P w K mg base 3 "_law_draw" f__law_draw fd__law_draw ps__law_draw (SpF K FW_draw)) {f__law_any : Addr} {fd__law_any : FuncData} {ps__law_any : List Str} (D__law_any : L2.Def P w K mg base 8 "_law_any" f__law_any fd__law_any ps__law_any (SpF K (FW_any 3)))  : FnOk P w K mg base CX0 9 f fd ["_law_well_here", "_law_text_here"] (SpF K FW_oddT) := by
  refine F.ok sc__law_odd_text (fun vs H Q E h => ?_) (fun cdv A outer s H vs Q E hr h => ?_)
  · exact lenF h fun c g es P h => h.1
  obtain ⟨I, g, es, P, ok, r, hF, k⟩ := spFL h
  have nd := sc__law_odd_text.nd
  have hu := hr.units
  have hu1 := hu_of hr
  refine ⟨_, (pss_cons (L2.ps_if (pt_cmpR op_gt (pe_call D__law_draw.ok (hr.mono (by first | decide | omega)) rfl D__law_draw.at_ D__law_draw.kp D__law_draw.bd .nil pass0 (pa_cons (pv 0) (pa_cons pe_int pa_nil))) pe_int (nomark _)) (pss_one (L2.ps_ret (pv 1))) pss_nil)
      (pss_one (L2.ps_ret (pe_ix (ix_z (K := (sC K).K) (w := w)) (pe_lst (pa_cons (pe_call D__law_any.ok (hr.mono (by first | decide | omega)) rfl D__law_any.at_ D__law_any.kp D__law_any.bd .nil pass0 (pa_cons (pv 0) (pa_cons pe_int pa_nil))) (pa_cons (pe_op op_mulS pe_str pe_int) (pa_cons pe_str (pa_cons (pe_lst (pa_cons pe_str pa_nil)) (pa_cons (pe_tup (pa_cons pe_str pa_nil)) (pa_cons pe_int (pa_cons pe_bl pa_nil)))))))) (pe_call D__law_draw.ok (hr.mono (by first | decide | omega)) rfl D__law_draw.at_ D__law_draw.kp D__law_draw.bd .nil pass0 (pa_cons (pv 0) (pa_cons pe_int pa_nil))) (fun _ _ => rfl))))), body_run ok r k ?_⟩
  obtain ⟨p, tx, rfl, hc, hW, hP⟩ := hF
  walk_at "ds"
  refine use_FL rfl ⟨p, _, rfl, by decide, by decide, hW, fun g1 k hW1 hk1 k0 k1 => ?_⟩
  walk_at "ds"
  refine ite_b (fun hb => ?_) (fun hb => ?_)
  · walk_at "ds"
    exact hP g1 _ hW1 hk1 (cmp_content hc).fit
  walk_at "ds"
  refine pv_lst2 ?_
  walk_at "ds"
  refine use_FL rfl ⟨p, _, rfl, by decide, by decide, hW1, fun g2 d hW2 hk2 hd => ?_⟩
  walk_at "ds"
  refine o_mulS (mulOk_small (k := 97) (by decide +kernel) (by decide)) ?_
  walk_at "ds"
  refine pv_lst2 ?_
  walk_at "ds"
  refine use_FL rfl ⟨p, _, rfl, by decide, by decide, hW2, fun g3 j hW3 hk3 j0 j1 => ?_⟩
  obtain ⟨x, hx, hm⟩ := atI_some (xs := [d, PyData.str (Txt.mul "a" 97), .str "a\n", .list [.str "a"], .tuple [.str "a"], .int 5, .bool true]) (i := j) j0 (by simp only [List.length_cons, List.length_nil]; omega)
  refine o_ixL hx ?_
  refine hP g3 x hW3 ((hk1.trans hk2).trans hk3) ?_
  simp only [List.mem_cons, List.not_mem_nil, or_false] at hm
  rcases hm with rfl | rfl | rfl | rfl | rfl | rfl | rfl
  · exact hd.fit (by decide)
  all_goals decide +kernel
theorem ok__law_odd_edit {f : Addr} {fd : FuncData} (F : Fun K "_law_odd_edit" "_law_odd_edit" s__law_odd_edit f fd)   {f__law_draw : Addr} {fd__law_draw : FuncData} {ps__law_draw : List Str} (D__law_draw : L2.Def P w K mg base 3 "_law_draw" f__law_draw fd__law_draw ps__law_draw (SpF K FW_draw)) {f__law_spoilt : Addr} {fd__law_spoilt : FuncData} {ps__law_spoilt : List Str} (D__law_spoilt : L2.Def P w K mg base 12 "_law_spoilt" f__law_spoilt fd__law_spoilt ps__law_spoilt (SpF K (FW_spoilt 3))) {f__law_nodes : Addr} {fd__law_nodes : FuncData} {ps__law_nodes : List Str} (D__law_nodes : L2.Def P w K mg base 4 "_law_nodes" f__law_nodes fd__law_nodes ps__law_nodes (SpF K (F_nodes 3))) {f__law_edit : Addr} {fd__law_edit : FuncData} {ps__law_edit : List Str} (D__law_edit : L2.Def P w K mg base 6 "_law_edit" f__law_edit fd__law_edit ps__law_edit (SpF K (FWd drawnEdit))) {f__law_any : Addr} {fd__law_any : FuncData} {ps__law_any : List Str} (D__law_any : L2.Def P w K mg base 8 "_law_any" f__law_any fd__law_any ps__law_any (SpF K (FW_any 3)))  : FnOk P w K mg base CX0 13 f fd ["_law_well_here", "_law_edit_here"] (SpF K FW_oddE) := by
  refine F.ok sc__law_odd_edit (fun vs H Q E h => ?_) (fun cdv A outer s H vs Q E hr h => ?_)
  · exact lenF h fun c g es P h => h.1
  obtain ⟨I, g, es, P, ok, r, hF, k⟩ := spFL h
  have nd := sc__law_odd_edit.nd
  have hu := hr.units
  have hu1 := hu_of hr
  refine ⟨_, (pss_cons (L2.ps_set (i := 2) nd rfl (by first | exact Or.inl rfl | exact Or.inr rfl | exact Or.inr (Or.inl rfl)) (pe_call D__law_draw.ok (hr.mono (by first | decide | omega)) rfl D__law_draw.at_ D__law_draw.kp D__law_draw.bd .nil pass0 (pa_cons (pv 0) (pa_cons pe_int pa_nil))))
      (pss_cons (L2.ps_if (pt_cmpR (op_zeq (K := (sC K).K) hu) (pv 2) pe_int (nomark _)) (pss_one (L2.ps_ret (pv 1))) pss_nil)
      (pss_cons (L2.ps_if (pt_cmpR op_zle (pv 2) pe_int (nomark _)) (pss_one (L2.ps_ret (pe_call D__law_spoilt.ok (hr.mono (by first | decide | omega)) rfl D__law_spoilt.at_ D__law_spoilt.kp D__law_spoilt.bd .nil pass0 (pa_cons (pv 1) (pa_cons (pe_call D__law_draw.ok (hr.mono (by first | decide | omega)) rfl D__law_draw.at_ D__law_draw.kp D__law_draw.bd .nil pass0 (pa_cons (pv 0) (pa_cons (pe_call D__law_nodes.ok (hr.mono (by first | decide | omega)) rfl D__law_nodes.at_ D__law_nodes.kp D__law_nodes.bd .nil pass0 (pa_cons (pv 1) pa_nil)) pa_nil))) (pa_cons (pv 0) pa_nil)))))) pss_nil)
      (pss_cons (L2.ps_if (pt_cmpR (op_zeq (K := (sC K).K) hu) (pv 2) pe_int (nomark _)) (pss_one (L2.ps_ret (pe_call D__law_edit.ok (hr.mono (by first | decide | omega)) rfl D__law_edit.at_ D__law_edit.kp D__law_edit.bd .nil pass0 (pa_cons (pv 0) pa_nil)))) pss_nil)
      (pss_one (L2.ps_ret (pe_call D__law_any.ok (hr.mono (by first | decide | omega)) rfl D__law_any.at_ D__law_any.kp D__law_any.bd .nil pass0 (pa_cons (pv 0) (pa_cons pe_int pa_nil))))))))), body_run ok r k ?_⟩
  obtain ⟨p, d, rfl, q1, q2, q3, hW, hP⟩ := hF
  refine Dl.ps_seq (Dl.ps_set ?_)
  walk_at "ds"
  refine use_FL rfl ⟨p, _, rfl, by decide, by decide, hW, fun g1 k hW1 hk1 k0 k1 => ?_⟩
  walk_at "ds"
  refine ite_b (fun hb => ?_) (fun hb => ?_)
  · walk_at "ds"
    exact hP g1 _ hW1 hk1 (B5.fit q1 q2)
  walk_at "ds"
  refine ite_b (fun hb => ?_) (fun hb => ?_)
  · have np := nodes_pos (d := d)
    walk_at "ds"
    refine ⟨rfl, d, rfl, by omega, by omega, ?_⟩
    walk_at "ds"
    refine use_FL rfl ⟨p, _, rfl, by omega, by omega, hW1, fun g2 n hW2 hk2 n0 n1 => ?_⟩
    walk_at "ds"
    exact use_FL rfl ⟨p, d, n, rfl, hW2, q1, by omega, by omega, by omega, n0, n1, fun g3 e hW3 hk3 he => hP g3 e hW3 ((hk1.trans hk2).trans hk3) (he.fit q2)⟩
  walk_at "ds"
  refine ite_b (fun hb => ?_) (fun hb => ?_)
  · walk_at "ds"
    exact use_FL rfl ⟨p, rfl, hW1, fun g2 e hW2 hk2 he => hP g2 e hW2 (hk1.trans hk2) (he.sz.fit (by decide))⟩
  walk_at "ds"
  exact use_FL rfl ⟨p, _, rfl, by decide, by decide, hW1, fun g2 e hW2 hk2 he => hP g2 e hW2 (hk1.trans hk2) (he.fit (by decide))⟩
theorem ok_law {f : Addr} {fd : FuncData} (F : Fun K "law" "law" s_law f fd)   (B : Blt mg) {f__law_well : Addr} {fd__law_well : FuncData} {ps__law_well : List Str} (D__law_well : L2.Def P w K mg base 1 "_law_well" f__law_well fd__law_well ps__law_well (SpF K FW_well)) {f__law_content : Addr} {fd__law_content : FuncData} {ps__law_content : List Str} (D__law_content : L2.Def P w K mg base 6 "_law_content" f__law_content fd__law_content ps__law_content (SpF K (FWd drawnContent))) {f__law_draw : Addr} {fd__law_draw : FuncData} {ps__law_draw : List Str} (D__law_draw : L2.Def P w K mg base 3 "_law_draw" f__law_draw fd__law_draw ps__law_draw (SpF K FW_draw)) {f__law_plain : Addr} {fd__law_plain : FuncData} {ps__law_plain : List Str} (D__law_plain : L2.Def P w K mg base 6 "_law_plain" f__law_plain fd__law_plain ps__law_plain (SpF K FW_plain)) {f__law_told : Addr} {fd__law_told : FuncData} {ps__law_told : List Str} (D__law_told : L2.Def P w K mg base 8 "_law_told" f__law_told fd__law_told ps__law_told (SpF K F_told2)) {f__law_done : Addr} {fd__law_done : FuncData} {ps__law_done : List Str} (D__law_done : L2.Def P w K mg base 1 "_law_done" f__law_done fd__law_done ps__law_done (SpF K FW_done)) {f__law_alike : Addr} {fd__law_alike : FuncData} {ps__law_alike : List Str} (D__law_alike : L2.Def P w K mg base 2 "_law_alike" f__law_alike fd__law_alike ps__law_alike (SpF K (F_alikeC 1))) {f__law_odd_text : Addr} {fd__law_odd_text : FuncData} {ps__law_odd_text : List Str} (D__law_odd_text : L2.Def P w K mg base 9 "_law_odd_text" f__law_odd_text fd__law_odd_text ps__law_odd_text (SpF K FW_oddT)) {f__law_odd_edit : Addr} {fd__law_odd_edit : FuncData} {ps__law_odd_edit : List Str} (D__law_odd_edit : L2.Def P w K mg base 13 "_law_odd_edit" f__law_odd_edit fd__law_odd_edit ps__law_odd_edit (SpF K FW_oddE)) {f__law_due : Addr} {fd__law_due : FuncData} {ps__law_due : List Str} (D__law_due : L2.Def P w K mg base 5 "_law_due" f__law_due fd__law_due ps__law_due (SpF K FW_due)) {f__law_is_back : Addr} {fd__law_is_back : FuncData} {ps__law_is_back : List Str} (D__law_is_back : L2.Def P w K mg base 9 "_law_is_back" f__law_is_back fd__law_is_back ps__law_is_back (SpF K FW_back))  : FnOk P w K mg base CX0 14 f fd ["_law_script"] (SpF K F_law) := by
  refine F.ok sc_law (fun vs H Q E h => ?_) (fun cdv A outer s H vs Q E hr h => ?_)
  · exact lenF h fun c g es P h => h.1
  obtain ⟨I, g, es, P, ok, r, hF, k⟩ := spFL h
  have nd := sc_law.nd
  have hu := hr.units
  have hu1 := hu_of hr
  refine ⟨_, (pss_cons (L2.ps_set (i := 1) nd rfl (by first | exact Or.inl rfl | exact Or.inr rfl | exact Or.inr (Or.inl rfl)) (pe_call D__law_well.ok (hr.mono (by first | decide | omega)) rfl D__law_well.at_ D__law_well.kp D__law_well.bd .nil pass0 (pa_cons (pv 0) pa_nil)))
      (pss_cons (L2.ps_set (i := 2) nd rfl (by first | exact Or.inl rfl | exact Or.inr rfl | exact Or.inr (Or.inl rfl)) (pe_call D__law_content.ok (hr.mono (by first | decide | omega)) rfl D__law_content.at_ D__law_content.kp D__law_content.bd .nil pass0 (pa_cons (pv 1) pa_nil)))
      (pss_cons (L2.ps_for PassesOwn.never rfl (pi_range1 rfl B.range_ (pa_cons (pe_op (op_zadd (K := (sC K).K)) pe_int (pe_call D__law_draw.ok (hr.mono (by first | decide | omega)) rfl D__law_draw.at_ D__law_draw.kp D__law_draw.bd .nil pass0 (pa_cons (pv 1) (pa_cons pe_int pa_nil)))) pa_nil)) (pg_name (i := 3) nd rfl (by first | exact Or.inl rfl | exact Or.inr rfl)) (pss_cons (L2.ps_set (i := 4) nd rfl (by first | exact Or.inl rfl | exact Or.inr rfl | exact Or.inr (Or.inl rfl)) (pe_call D__law_plain.ok (hr.mono (by first | decide | omega)) rfl D__law_plain.at_ D__law_plain.kp D__law_plain.bd .nil pass0 (pa_cons (pv 1) (pa_cons (pv 2) pa_nil))))
      (pss_cons (L2.ps_set (i := 5) nd rfl (by first | exact Or.inl rfl | exact Or.inr rfl | exact Or.inr (Or.inl rfl)) (pe_call D__law_told.ok (hr.mono (by first | decide | omega)) rfl D__law_told.at_ D__law_told.kp D__law_told.bd .nil pass0 (pa_cons (pv 2) (pa_cons (pv 4) pa_nil))))
      (pss_cons (L2.ps_if (PW.pt (pw_or (pt_cmpR (op_zne (K := (sC K).K) hu) (pe_ix (ix_z (K := (sC K).K) (w := w)) (pv 5) pe_int (fun _ _ => rfl)) (pe_ix (ix_z (K := (sC K).K) (w := w)) (pe_call D__law_done.ok (hr.mono (by first | decide | omega)) rfl D__law_done.at_ D__law_done.kp D__law_done.bd .nil pass0 (pa_cons (pv 2) (pa_cons (pv 4) pa_nil))) pe_int (fun _ _ => rfl)) (nomark _)) (pw_or1 (pt_not (pt_val (pe_call D__law_alike.ok (hr.mono (by first | decide | omega)) rfl D__law_alike.at_ D__law_alike.kp D__law_alike.bd .nil pass0 (pa_cons (pe_ix (ix_z (K := (sC K).K) (w := w)) (pv 5) pe_int (fun _ _ => rfl)) (pa_cons (pe_ix (ix_z (K := (sC K).K) (w := w)) (pe_call D__law_done.ok (hr.mono (by first | decide | omega)) rfl D__law_done.at_ D__law_done.kp D__law_done.bd .nil pass0 (pa_cons (pv 2) (pa_cons (pv 4) pa_nil))) pe_int (fun _ _ => rfl)) pa_nil)))))))) (pss_one (L2.ps_ret pe_bl)) pss_nil)
      (pss_cons (L2.ps_set (i := 6) nd rfl (by first | exact Or.inl rfl | exact Or.inr rfl | exact Or.inr (Or.inl rfl)) (pe_call D__law_odd_text.ok (hr.mono (by first | decide | omega)) rfl D__law_odd_text.at_ D__law_odd_text.kp D__law_odd_text.bd .nil pass0 (pa_cons (pv 1) (pa_cons (pv 2) pa_nil))))
      (pss_cons (L2.ps_set (i := 7) nd rfl (by first | exact Or.inl rfl | exact Or.inr rfl | exact Or.inr (Or.inl rfl)) (pe_call D__law_odd_edit.ok (hr.mono (by first | decide | omega)) rfl D__law_odd_edit.at_ D__law_odd_edit.kp D__law_odd_edit.bd .nil pass0 (pa_cons (pv 1) (pa_cons (pv 4) pa_nil))))
      (pss_cons (L2.ps_if (pt_cmpR (op_zne (K := (sC K).K) hu) (pe_call D__law_told.ok (hr.mono (by first | decide | omega)) rfl D__law_told.at_ D__law_told.kp D__law_told.bd .nil pass0 (pa_cons (pv 6) (pa_cons (pv 7) pa_nil))) (pe_call D__law_due.ok (hr.mono (by first | decide | omega)) rfl D__law_due.at_ D__law_due.kp D__law_due.bd .nil pass0 (pa_cons (pv 6) (pa_cons (pv 7) pa_nil))) (nomark _)) (pss_one (L2.ps_ret pe_bl)) pss_nil)
      (pss_one (L2.ps_if (pt_cmpR (op_zeq (K := (sC K).K) hu) (pe_ix (ix_z (K := (sC K).K) (w := w)) (pv 5) pe_int (fun _ _ => rfl)) pe_str (nomark _)) (pss_cons (L2.ps_if (PW.pt (pw_and (pt_cmpR (op_zeq (K := (sC K).K) hu) (pe_ix (ix_z (K := (sC K).K) (w := w)) (pv 4) pe_int (fun _ _ => rfl)) pe_str (nomark _)) (pw_and1 (pt_not (pt_val (pe_call D__law_is_back.ok (hr.mono (by first | decide | omega)) rfl D__law_is_back.at_ D__law_is_back.kp D__law_is_back.bd .nil pass0 (pa_cons (pv 2) (pa_cons (pv 4) (pa_cons (pe_ix (ix_z (K := (sC K).K) (w := w)) (pv 5) pe_int (fun _ _ => rfl)) pa_nil))))))))) (pss_one (L2.ps_ret pe_bl)) pss_nil)
      (pss_one (L2.ps_set (i := 2) nd rfl (by first | exact Or.inl rfl | exact Or.inr rfl | exact Or.inr (Or.inl rfl)) (pe_ix (ix_z (K := (sC K).K) (w := w)) (pv 5) pe_int (fun _ _ => rfl))))) pss_nil)))))))))
      (pss_one (L2.ps_ret pe_bl))))), body_run ok r k ?_⟩
  obtain ⟨ns, rfl, hl, hP⟩ := hF
  refine Dl.ps_seq (Dl.ps_set ?_)
  walk_at "ds"
  refine use_FL rfl ⟨ns, rfl, hl, fun p g0 hp0 hW0 hk0 => ?_⟩
  walk_at "ds"
  refine use_FL rfl ⟨p, rfl, hW0, fun g1 tx0 hW1 hk1 htx => ?_⟩
  walk_at "ds"
  refine Dl.ps_for (pit_rng1 ?_)
  walk_at "ds"
  refine use_FL rfl ⟨p, _, rfl, by decide, by decide, hW1, fun g2 m hW2 hk2 m0 m1 => ?_⟩
  walk_at "ds"
  refine ⟨by omega, by omega, fun n ρ2 (g2 : Store) => ∃ (tx : PyData) (e3 e4 e5 e6 e7 : Option EV), ρ2 = [some (.d (.list (ns.map .int))), some (.r (.ref p)), some (.d tx), e3, e4, e5, e6, e7] ∧ WellIs g2 p ∧ isContent tx = true, ⟨tx0, none, none, none, none, none, rfl, hW2, htx.ok⟩, ?_, ?_⟩
  · rintro n ρ2 g2 hn ⟨tx, e3, e4, e5, e6, e7, rfl, hW, hc⟩
    refine Dl.ps_seq (Dl.ps_set ?_)
    walk_at "ds"
    refine use_FL rfl ⟨p, tx, rfl, hc, hW, fun g3 e hW3 hk3 ho hp q1 q2 q3 => ?_⟩
    refine Dl.ps_seq (Dl.ps_set ?_)
    walk_at "ds"
    refine ⟨rfl, tx, e.D, rfl, (cmp_content hc).fit, B5.fit q1 q2, ?_⟩
    rw [due_plain hc ho hp]
    obtain ⟨w, t, ed, ct, hw, -⟩ := done_cmp hc ho
    rw [ed]
    walk_at "ds"
    refine use_FL rfl ⟨tx, e, rfl, hc, ho, hp, ?_⟩
    rw [ed]
    walk_at "ds"
    have ww : fit (.str w) = true ∧ (PyData.str w).canLay0 = true ∧ (PyData.str w).depth ≤ 64 := by rcases hw with rfl | rfl <;> exact ⟨by decide +kernel, by decide +kernel, by decide +kernel⟩
    refine o_ne ww.1 ww.1 ww.2.1 ww.2.1 ww.2.2 ww.2.2 ?_
    rw [PySem.SeqAt.eqv_refl _ ww.2.1]
    walk_at "ds"
    refine use_FL rfl ⟨tx, e, rfl, hc, ho, hp, ?_⟩
    rw [ed]
    walk_at "ds"
    refine ⟨rfl, t, rfl, ct, Nat.one_pos, ?_⟩
    walk_at "ds"
    refine use_FL rfl ⟨p, tx, rfl, hc, hW3, fun g4 od hW4 hk4 fo => ?_⟩
    refine Dl.ps_seq (Dl.ps_set ?_)
    walk_at "ds"
    refine use_FL rfl ⟨p, e.D, rfl, q1, q2, q3, hW4, fun g5 oe hW5 hk5 fe => ?_⟩
    walk_at "ds"
    refine ⟨rfl, od, oe, rfl, fo, fe, ?_⟩
    walk_at "ds"
    refine use_FL rfl ⟨od, oe, rfl, fo, fe, ?_⟩
    have dc := due_cmp od oe
    refine o_ne dc.fit dc.fit dc.lay dc.lay (Nat.le_trans dc.dep (by decide)) (Nat.le_trans dc.dep (by decide)) ?_
    rw [PySem.SeqAt.eqv_refl _ dc.lay]
    walk_at "ds"
    rcases hw with rfl | rfl
    · walk_at "ds"
      cases e with
      | put z =>
        rw [show (Ed.put z).D = .tuple [.str "put", .str z] from rfl]
        walk_at "ds"
        exact ⟨t, _, _, _, _, _, rfl, hW5, ct⟩
      | remove =>
        rw [show (Ed.remove).D = .tuple [.str "remove"] from rfl]
        walk_at "ds"
        exact ⟨t, _, _, _, _, _, rfl, hW5, ct⟩
      | splice a b z =>
        obtain ⟨a, rfl⟩ := Int.eq_ofNat_of_zero_le ho.1
        obtain ⟨b, rfl⟩ := Int.eq_ofNat_of_zero_le ho.2.1
        rcases content_of hc with rfl | ⟨t0, rfl, ht⟩
        · rw [show doneD .none (.splice a b z) = .tuple [.str "unfit", .none] from rfl] at ed
          cases ed
        rw [made_at] at ed
        split at ed
        · rename_i hq
          cases ed
          rw [show (Ed.splice (a : Int) (b : Int) z).D = .tuple [.str "splice", .int a, .int b, .str z] from rfl]
          walk_at "ds"
          refine use_FL rfl ⟨t0, z, a, b, rfl, ht, ho.2.2, by omega, by omega, ?_⟩
          walk_at "ds"
          exact ⟨_, _, _, _, _, _, rfl, hW5, ct⟩
        · cases ed
      | take => cases hp
      | adopt => cases hp
      | drop => cases hp
    · walk_at "ds"
      exact ⟨tx, _, _, _, _, _, rfl, hW5, hc⟩
  · rintro ρ2 g2 ⟨tx, e3, e4, e5, e6, e7, rfl, hW, hc⟩
    walk_at "ds"
    exact hP _
end Pr
set_option Elab.async false
set_option linter.all false
set_option autoImplicit false
set_option maxRecDepth 100000
set_option maxHeartbeats 4000000
namespace Pr
open PySem PySem.Spec PyProof.Rows L2 Dl
theorem all_mk {l : PySem.W.OpenLaw} {w : World} {K : PySem.W.Frag} {h : Heap} {mg : Str → Option Value} {fa : Addr} (X : K.In h) (G : h.Ns mainGlobals mg) (hfa : mg "law" = some (.ref fa))
    {f_law : Addr} (I_law : IsDef K "law" s_law f_law)
    {f__law_well : Addr} (I__law_well : IsDef K "_law_well" s__law_well f__law_well)
    {f__law_content : Addr} (I__law_content : IsDef K "_law_content" s__law_content f__law_content)
    {f__law_draw : Addr} (I__law_draw : IsDef K "_law_draw" s__law_draw f__law_draw)
    {f__law_filled : Addr} (I__law_filled : IsDef K "_law_filled" s__law_filled f__law_filled)
    {f__law_mixed : Addr} (I__law_mixed : IsDef K "_law_mixed" s__law_mixed f__law_mixed)
    {f__law_text : Addr} (I__law_text : IsDef K "_law_text" s__law_text f__law_text)
    {f__law_string : Addr} (I__law_string : IsDef K "_law_string" s__law_string f__law_string)
    {f__law_signs : Addr} (I__law_signs : IsDef K "_law_signs" s__law_signs f__law_signs)
    {f__law_plain : Addr} (I__law_plain : IsDef K "_law_plain" s__law_plain f__law_plain)
    {f__law_told : Addr} (I__law_told : IsDef K "_law_told" s__law_told f__law_told)
    {f_edited : Addr} (I_edited : IsDef K "edited" s_edited f_edited)
    {f_is_content : Addr} (I_is_content : IsDef K "is_content" s_is_content f_is_content)
    {f_is_text : Addr} (I_is_text : IsDef K "is_text" s_is_text f_is_text)
    {f_is_plain_edit : Addr} (I_is_plain_edit : IsDef K "is_plain_edit" s_is_plain_edit f_is_plain_edit)
    {f_is_edit : Addr} (I_is_edit : IsDef K "is_edit" s_is_edit f_is_edit)
    {f_is_count : Addr} (I_is_count : IsDef K "is_count" s_is_count f_is_count)
    {f_is_name : Addr} (I_is_name : IsDef K "is_name" s_is_name f_is_name)
    {f_is_client : Addr} (I_is_client : IsDef K "is_client" s_is_client f_is_client)
    {f_is_number : Addr} (I_is_number : IsDef K "is_number" s_is_number f_is_number)
    {f_has_word : Addr} (I_has_word : IsDef K "has_word" s_has_word f_has_word)
    {f_are_all : Addr} (I_are_all : IsDef K "are_all" s_are_all f_are_all)
    {f_is_integer : Addr} (I_is_integer : IsDef K "is_integer" s_is_integer f_is_integer)
    {f_is_between : Addr} (I_is_between : IsDef K "is_between" s_is_between f_is_between)
    {f_can_be_done : Addr} (I_can_be_done : IsDef K "can_be_done" s_can_be_done f_can_be_done)
    {f_raw_edited : Addr} (I_raw_edited : IsDef K "raw_edited" s_raw_edited f_raw_edited)
    {f__law_done : Addr} (I__law_done : IsDef K "_law_done" s__law_done f__law_done)
    {f__law_alike : Addr} (I__law_alike : IsDef K "_law_alike" s__law_alike f__law_alike)
    {f__law_odd_text : Addr} (I__law_odd_text : IsDef K "_law_odd_text" s__law_odd_text f__law_odd_text)
    {f__law_any : Addr} (I__law_any : IsDef K "_law_any" s__law_any f__law_any)
    {f__law_number : Addr} (I__law_number : IsDef K "_law_number" s__law_number f__law_number)
    {f__law_name : Addr} (I__law_name : IsDef K "_law_name" s__law_name f__law_name)
    {f__law_odd_edit : Addr} (I__law_odd_edit : IsDef K "_law_odd_edit" s__law_odd_edit f__law_odd_edit)
    {f__law_spoilt : Addr} (I__law_spoilt : IsDef K "_law_spoilt" s__law_spoilt f__law_spoilt)
    {f__law_changed : Addr} (I__law_changed : IsDef K "_law_changed" s__law_changed f__law_changed)
    {f__law_nodes : Addr} (I__law_nodes : IsDef K "_law_nodes" s__law_nodes f__law_nodes)
    {f__law_edit : Addr} (I__law_edit : IsDef K "_law_edit" s__law_edit f__law_edit)
    {f__law_client : Addr} (I__law_client : IsDef K "_law_client" s__law_client f__law_client)
    {f__law_due : Addr} (I__law_due : IsDef K "_law_due" s__law_due f__law_due)
    {f__law_text_fits : Addr} (I__law_text_fits : IsDef K "_law_text_fits" s__law_text_fits f__law_text_fits)
    {f__law_edit_fits : Addr} (I__law_edit_fits : IsDef K "_law_edit_fits" s__law_edit_fits f__law_edit_fits)
    {f__law_count : Addr} (I__law_count : IsDef K "_law_count" s__law_count f__law_count)
    {f__law_name_fits : Addr} (I__law_name_fits : IsDef K "_law_name_fits" s__law_name_fits f__law_name_fits)
    {f__law_pair_fits : Addr} (I__law_pair_fits : IsDef K "_law_pair_fits" s__law_pair_fits f__law_pair_fits)
    {f__law_long : Addr} (I__law_long : IsDef K "_law_long" s__law_long f__law_long)
    {f__law_client_fits : Addr} (I__law_client_fits : IsDef K "_law_client_fits" s__law_client_fits f__law_client_fits)
    {f__law_is_back : Addr} (I__law_is_back : IsDef K "_law_is_back" s__law_is_back f__law_is_back)
    {t_MOST_IN_TEXT : Tok} (N_MOST_IN_TEXT : PySem.W.nsIn K mainGlobals "MOST_IN_TEXT" = some (some (.int 96 t_MOST_IN_TEXT)))
    {t_PUT : Tok} (N_PUT : PySem.W.nsIn K mainGlobals "PUT" = some (some (.str "put" t_PUT)))
    {t_SPLICE : Tok} (N_SPLICE : PySem.W.nsIn K mainGlobals "SPLICE" = some (some (.str "splice" t_SPLICE)))
    {t_REMOVE : Tok} (N_REMOVE : PySem.W.nsIn K mainGlobals "REMOVE" = some (some (.str "remove" t_REMOVE)))
    {a_EDITS : Addr} (N_EDITS : PySem.W.nsIn K mainGlobals "EDITS" = some (some (.ref a_EDITS)))
    {t_MOST_IN_NAME : Tok} (N_MOST_IN_NAME : PySem.W.nsIn K mainGlobals "MOST_IN_NAME" = some (some (.int 8 t_MOST_IN_NAME)))
    {t_SIGNS : Tok} (N_SIGNS : PySem.W.nsIn K mainGlobals "SIGNS" = some (some (.str "abcdefghijklmnopqrstuvwxyz" t_SIGNS)))
    {t_MOST_CLIENTS : Tok} (N_MOST_CLIENTS : PySem.W.nsIn K mainGlobals "MOST_CLIENTS" = some (some (.int 9 t_MOST_CLIENTS)))
    {es_EDITS : Array DictEntry} {n_EDITS : Nat} (T_EDITS : IsTab K w a_EDITS ["put", "splice", "remove", "take", "adopt", "drop"] es_EDITS n_EDITS)
    {C_NoText : Addr} (EX_NoText : IsErr K "NoText" C_NoText)
    {C_NoEdit : Addr} (EX_NoEdit : IsErr K "NoEdit" C_NoEdit)
    {C_Unfit : Addr} (EX_Unfit : IsErr K "Unfit" C_Unfit)
    {C_LeaseError : Addr} (EX_LeaseError : IsErr K "LeaseError" C_LeaseError)
    {e_EDITS0 : Addr} (V_EDITS0 : PySem.W.nsIn K a_EDITS "put" = some (some (.ref e_EDITS0)))
    (W_EDITS0 : IsTupV K e_EDITS0 [.ref f_is_text])
    {e_EDITS1 : Addr} (V_EDITS1 : PySem.W.nsIn K a_EDITS "splice" = some (some (.ref e_EDITS1)))
    (W_EDITS1 : IsTupV K e_EDITS1 [.ref f_is_count, .ref f_is_count, .ref f_is_text])
    {e_EDITS2 : Addr} (V_EDITS2 : PySem.W.nsIn K a_EDITS "remove" = some (some (.ref e_EDITS2)))
    (W_EDITS2 : IsTupV K e_EDITS2 [])
    {e_EDITS3 : Addr} (V_EDITS3 : PySem.W.nsIn K a_EDITS "take" = some (some (.ref e_EDITS3)))
    (W_EDITS3 : IsTupV K e_EDITS3 [.ref f_is_name])
    {e_EDITS4 : Addr} (V_EDITS4 : PySem.W.nsIn K a_EDITS "adopt" = some (some (.ref e_EDITS4)))
    (W_EDITS4 : IsTupV K e_EDITS4 [.ref f_is_client, .ref f_is_number])
    {e_EDITS5 : Addr} (V_EDITS5 : PySem.W.nsIn K a_EDITS "drop" = some (some (.ref e_EDITS5)))
    (W_EDITS5 : IsTupV K e_EDITS5 [.ref f_is_client, .ref f_is_number])
    (XM_NoText_NoText : PySem.W.exmOne K (.ref C_NoText) (.ref C_NoText) = some true)
    (XM_NoEdit_NoText : PySem.W.exmOne K (.ref C_NoEdit) (.ref C_NoText) = some false)
    (XM_NoEdit_NoEdit : PySem.W.exmOne K (.ref C_NoEdit) (.ref C_NoEdit) = some true)
    (XM_Unfit_NoText : PySem.W.exmOne K (.ref C_Unfit) (.ref C_NoText) = some false)
    (XM_Unfit_NoEdit : PySem.W.exmOne K (.ref C_Unfit) (.ref C_NoEdit) = some false)
    (XM_Unfit_Unfit : PySem.W.exmOne K (.ref C_Unfit) (.ref C_Unfit) = some true)
    {C_NoTable : Addr} (EX_NoTable : IsErr K "NoTable" C_NoTable)
    (XQ_NoTable : ExcQ K C_NoTable "NoTable")
    (z_isinstance : PySem.W.nsIn K mainGlobals "isinstance" = some none)
    (z_len : PySem.W.nsIn K mainGlobals "len" = some none)
    (z_all : PySem.W.nsIn K mainGlobals "all" = some none)
    (z_range : PySem.W.nsIn K mainGlobals "range" = some none)
    (z_zip : PySem.W.nsIn K mainGlobals "zip" = some none)
    (z_int : PySem.W.nsIn K mainGlobals "int" = some none)
    (z_str : PySem.W.nsIn K mainGlobals "str" = some none)
    (z_bool : PySem.W.nsIn K mainGlobals "bool" = some none)
    (z_tuple : PySem.W.nsIn K mainGlobals "tuple" = some none)
    (z_list : PySem.W.nsIn K mainGlobals "list" = some none)
    (z_abs : PySem.W.nsIn K mainGlobals "abs" = some none)
    (z_max : PySem.W.nsIn K mainGlobals "max" = some none)
    (z_enumerate : PySem.W.nsIn K mainGlobals "enumerate" = some none)
    (z_sorted : PySem.W.nsIn K mainGlobals "sorted" = some none)
    (z_sum : PySem.W.nsIn K mainGlobals "sum" = some none)
    (z_min : PySem.W.nsIn K mainGlobals "min" = some none)
    (z_any : PySem.W.nsIn K mainGlobals "any" = some none)
    (z_repr : PySem.W.nsIn K mainGlobals "repr" = some none)
    (z_ord : PySem.W.nsIn K mainGlobals "ord" = some none)
    (z_dict : PySem.W.nsIn K mainGlobals "dict" = some none)
    (z_set : PySem.W.nsIn K mainGlobals "set" = some none)
    (z_ValueError : PySem.W.nsIn K mainGlobals "ValueError" = some none)
    : ∃ fd : FuncData, (∀ (s : Shared) (v : Value), BindsTo s fd ⟨[v], []⟩ [("_law_script", v)]) ∧ ∀ base : Heap, K.In base → base.Ns mainGlobals mg → FnOk l.prog w K mg base CX0 14 fa fd ["_law_script"] (spLaw K) := by
  have e0 := hfa.symm.trans (PySem.W.mg_of X G I_law.a)
  cases e0
  have B : Blt mg := ⟨PySem.W.mg_none_of X G z_isinstance, PySem.W.mg_none_of X G z_len, PySem.W.mg_none_of X G z_all, PySem.W.mg_none_of X G z_range, PySem.W.mg_none_of X G z_zip, PySem.W.mg_none_of X G z_int, PySem.W.mg_none_of X G z_str, PySem.W.mg_none_of X G z_bool, PySem.W.mg_none_of X G z_tuple, PySem.W.mg_none_of X G z_list, PySem.W.mg_none_of X G z_abs, PySem.W.mg_none_of X G z_max, PySem.W.mg_none_of X G z_enumerate, PySem.W.mg_none_of X G z_sorted, PySem.W.mg_none_of X G z_sum, PySem.W.mg_none_of X G z_min, PySem.W.mg_none_of X G z_any, PySem.W.mg_none_of X G z_repr, PySem.W.mg_none_of X G z_ord, PySem.W.mg_none_of X G z_dict, PySem.W.mg_none_of X G z_set, PySem.W.mg_none_of X G z_ValueError⟩
  obtain ⟨fd_law, Q_law⟩ := I_law.def
  obtain ⟨fd__law_well, Q__law_well⟩ := I__law_well.def
  obtain ⟨fd__law_content, Q__law_content⟩ := I__law_content.def
  obtain ⟨fd__law_draw, Q__law_draw⟩ := I__law_draw.def
  obtain ⟨fd__law_filled, Q__law_filled⟩ := I__law_filled.def
  obtain ⟨fd__law_mixed, Q__law_mixed⟩ := I__law_mixed.def
  obtain ⟨fd__law_text, Q__law_text⟩ := I__law_text.def
  obtain ⟨fd__law_string, Q__law_string⟩ := I__law_string.def
  obtain ⟨fd__law_signs, Q__law_signs⟩ := I__law_signs.def
  obtain ⟨fd__law_plain, Q__law_plain⟩ := I__law_plain.def
  obtain ⟨fd__law_told, Q__law_told⟩ := I__law_told.def
  obtain ⟨fd_edited, Q_edited⟩ := I_edited.def
  obtain ⟨fd_is_content, Q_is_content⟩ := I_is_content.def
  obtain ⟨fd_is_text, Q_is_text⟩ := I_is_text.def
  obtain ⟨fd_is_plain_edit, Q_is_plain_edit⟩ := I_is_plain_edit.def
  obtain ⟨fd_is_edit, Q_is_edit⟩ := I_is_edit.def
  obtain ⟨fd_is_count, Q_is_count⟩ := I_is_count.def
  obtain ⟨fd_is_name, Q_is_name⟩ := I_is_name.def
  obtain ⟨fd_is_client, Q_is_client⟩ := I_is_client.def
  obtain ⟨fd_is_number, Q_is_number⟩ := I_is_number.def
  obtain ⟨fd_has_word, Q_has_word⟩ := I_has_word.def
  obtain ⟨fd_are_all, Q_are_all⟩ := I_are_all.def
  obtain ⟨fd_is_integer, Q_is_integer⟩ := I_is_integer.def
  obtain ⟨fd_is_between, Q_is_between⟩ := I_is_between.def
  obtain ⟨fd_can_be_done, Q_can_be_done⟩ := I_can_be_done.def
  obtain ⟨fd_raw_edited, Q_raw_edited⟩ := I_raw_edited.def
  obtain ⟨fd__law_done, Q__law_done⟩ := I__law_done.def
  obtain ⟨fd__law_alike, Q__law_alike⟩ := I__law_alike.def
  obtain ⟨fd__law_odd_text, Q__law_odd_text⟩ := I__law_odd_text.def
  obtain ⟨fd__law_any, Q__law_any⟩ := I__law_any.def
  obtain ⟨fd__law_number, Q__law_number⟩ := I__law_number.def
  obtain ⟨fd__law_name, Q__law_name⟩ := I__law_name.def
  obtain ⟨fd__law_odd_edit, Q__law_odd_edit⟩ := I__law_odd_edit.def
  obtain ⟨fd__law_spoilt, Q__law_spoilt⟩ := I__law_spoilt.def
  obtain ⟨fd__law_changed, Q__law_changed⟩ := I__law_changed.def
  obtain ⟨fd__law_nodes, Q__law_nodes⟩ := I__law_nodes.def
  obtain ⟨fd__law_edit, Q__law_edit⟩ := I__law_edit.def
  obtain ⟨fd__law_client, Q__law_client⟩ := I__law_client.def
  obtain ⟨fd__law_due, Q__law_due⟩ := I__law_due.def
  obtain ⟨fd__law_text_fits, Q__law_text_fits⟩ := I__law_text_fits.def
  obtain ⟨fd__law_edit_fits, Q__law_edit_fits⟩ := I__law_edit_fits.def
  obtain ⟨fd__law_count, Q__law_count⟩ := I__law_count.def
  obtain ⟨fd__law_name_fits, Q__law_name_fits⟩ := I__law_name_fits.def
  obtain ⟨fd__law_pair_fits, Q__law_pair_fits⟩ := I__law_pair_fits.def
  obtain ⟨fd__law_long, Q__law_long⟩ := I__law_long.def
  obtain ⟨fd__law_client_fits, Q__law_client_fits⟩ := I__law_client_fits.def
  obtain ⟨fd__law_is_back, Q__law_is_back⟩ := I__law_is_back.def
  refine ⟨fd_law, fun s v => ?_, fun base _ _ => ?_⟩
  · obtain ⟨oc, od, kV, doc, pm, an, cdv, ct, osl, e, _, _⟩ := Q_law.ex
    subst e
    exact .of_eq rfl
  have D__law_well : L2.Def l.prog w K mg base 1 "_law_well" f__law_well fd__law_well ["_law_script"] (SpF K FW_well) := def_of I__law_well X G Q__law_well (ok__law_well Q__law_well B) (Q__law_well.binds (ps := ["_law_script"]) fun _ _ _ _ _ _ us hl => match us, hl with | [_], _ => rfl)
  have D__law_mixed : L2.Def l.prog w K mg base 1 "_law_mixed" f__law_mixed fd__law_mixed ["_law_number_here"] (SpF K FW_mixed) := def_of I__law_mixed X G Q__law_mixed (ok__law_mixed Q__law_mixed B) (Q__law_mixed.binds (ps := ["_law_number_here"]) fun _ _ _ _ _ _ us hl => match us, hl with | [_], _ => rfl)
  have D__law_filled : L2.Def l.prog w K mg base 2 "_law_filled" f__law_filled fd__law_filled ["_law_well_here"] (SpF K FW_filled) := def_of I__law_filled X G Q__law_filled (ok__law_filled Q__law_filled B D__law_mixed) (Q__law_filled.binds (ps := ["_law_well_here"]) fun _ _ _ _ _ _ us hl => match us, hl with | [_], _ => rfl)
  have D__law_draw : L2.Def l.prog w K mg base 3 "_law_draw" f__law_draw fd__law_draw ["_law_well_here", "_law_many"] (SpF K FW_draw) := def_of I__law_draw X G Q__law_draw (ok__law_draw Q__law_draw B D__law_filled) (Q__law_draw.binds (ps := ["_law_well_here", "_law_many"]) fun _ _ _ _ _ _ us hl => match us, hl with | [_, _], _ => rfl)
  have D__law_signs : L2.Def l.prog w K mg base 1 "_law_signs" f__law_signs fd__law_signs [] (SpF K FW_signs) := def_of I__law_signs X G Q__law_signs (ok__law_signs Q__law_signs ) (Q__law_signs.binds (ps := []) fun _ _ _ _ _ _ us hl => match us, hl with | [], _ => rfl)
  have D__law_string : L2.Def l.prog w K mg base 4 "_law_string" f__law_string fd__law_string ["_law_well_here", "_law_many"] (SpF K FW_string) := def_of I__law_string X G Q__law_string (ok__law_string Q__law_string B D__law_signs D__law_draw) (Q__law_string.binds (ps := ["_law_well_here", "_law_many"]) fun _ _ _ _ _ _ us hl => match us, hl with | [_, _], _ => rfl)
  have D__law_text : L2.Def l.prog w K mg base 5 "_law_text" f__law_text fd__law_text ["_law_well_here"] (SpF K (FWd drawnText)) := def_of I__law_text X G Q__law_text (ok__law_text Q__law_text D__law_draw D__law_string) (Q__law_text.binds (ps := ["_law_well_here"]) fun _ _ _ _ _ _ us hl => match us, hl with | [_], _ => rfl)
  have D__law_content : L2.Def l.prog w K mg base 6 "_law_content" f__law_content fd__law_content ["_law_well_here"] (SpF K (FWd drawnContent)) := def_of I__law_content X G Q__law_content (ok__law_content Q__law_content D__law_draw D__law_text) (Q__law_content.binds (ps := ["_law_well_here"]) fun _ _ _ _ _ _ us hl => match us, hl with | [_], _ => rfl)
  have D__law_plain : L2.Def l.prog w K mg base 6 "_law_plain" f__law_plain fd__law_plain ["_law_well_here", "_law_text_here"] (SpF K FW_plain) := def_of I__law_plain X G Q__law_plain (ok__law_plain Q__law_plain B D__law_draw D__law_text D__law_string) (Q__law_plain.binds (ps := ["_law_well_here", "_law_text_here"]) fun _ _ _ _ _ _ us hl => match us, hl with | [_, _], _ => rfl)
  have X_NoText := EX_NoText.d X G
  have X_NoEdit := EX_NoEdit.d X G
  have X_Unfit := EX_Unfit.d X G
  have X_LeaseError := EX_LeaseError.d X G
  have C_MOST_IN_TEXT := PySem.W.mg_of X G N_MOST_IN_TEXT
  have D_is_text : L2.Def l.prog w K mg base 1 "is_text" f_is_text fd_is_text ["thing"] (SpF K (FJ fit isText)) := def_of I_is_text X G Q_is_text (ok_is_text Q_is_text B C_MOST_IN_TEXT) (Q_is_text.binds (ps := ["thing"]) fun _ _ _ _ _ _ us hl => match us, hl with | [_], _ => rfl)
  have D_is_content : L2.Def l.prog w K mg base 2 "is_content" f_is_content fd_is_content ["thing"] (SpF K (FJ fit isContent)) := def_of I_is_content X G Q_is_content (ok_is_content Q_is_content D_is_text) (Q_is_content.binds (ps := ["thing"]) fun _ _ _ _ _ _ us hl => match us, hl with | [_], _ => rfl)
  have C_PUT := PySem.W.mg_of X G N_PUT
  have C_SPLICE := PySem.W.mg_of X G N_SPLICE
  have C_REMOVE := PySem.W.mg_of X G N_REMOVE
  have C_EDITS := PySem.W.mg_of X G N_EDITS
  have K_EDITS := T_EDITS.d
  let tabE : Tab := tabOf [(f_is_text, isText), (f_is_count, isCount), (f_is_name, isName), (f_is_client, isClient), (f_is_number, isNumber)]
  have tE_is_text : tabE f_is_text = some isText := tabOf_pos rfl
  have tE_is_count : tabE f_is_count = some isCount := (tabOf_neg (I_is_text.ne I_is_count (by decide +kernel))).trans (tabOf_pos rfl)
  have tE_is_name : tabE f_is_name = some isName := (tabOf_neg (I_is_text.ne I_is_name (by decide +kernel))).trans ((tabOf_neg (I_is_count.ne I_is_name (by decide +kernel))).trans (tabOf_pos rfl))
  have tE_is_client : tabE f_is_client = some isClient := (tabOf_neg (I_is_text.ne I_is_client (by decide +kernel))).trans ((tabOf_neg (I_is_count.ne I_is_client (by decide +kernel))).trans ((tabOf_neg (I_is_name.ne I_is_client (by decide +kernel))).trans (tabOf_pos rfl)))
  have tE_is_number : tabE f_is_number = some isNumber := (tabOf_neg (I_is_text.ne I_is_number (by decide +kernel))).trans ((tabOf_neg (I_is_count.ne I_is_number (by decide +kernel))).trans ((tabOf_neg (I_is_name.ne I_is_number (by decide +kernel))).trans ((tabOf_neg (I_is_client.ne I_is_number (by decide +kernel))).trans (tabOf_pos rfl))))
  have QEDITS : TabK K w tabE a_EDITS editTests := by
    refine ⟨fun z hz => T_EDITS.no fun m => ?_, fun z ps hz => ?_⟩
    · simp only [List.mem_cons, List.not_mem_nil, or_false] at m
      rcases m with rfl | rfl | rfl | rfl | rfl | rfl
      · have q : (editTests "put").isSome = true := by rfl
        rw [hz] at q; cases q
      · have q : (editTests "splice").isSome = true := by rfl
        rw [hz] at q; cases q
      · have q : (editTests "remove").isSome = true := by rfl
        rw [hz] at q; cases q
      · have q : (editTests "take").isSome = true := by rfl
        rw [hz] at q; cases q
      · have q : (editTests "adopt").isSome = true := by rfl
        rw [hz] at q; cases q
      · have q : (editTests "drop").isSome = true := by rfl
        rw [hz] at q; cases q
    · simp only [editTests] at hz
      by_cases c0 : ("put" : Str) = z
      · subst c0
        have hz' : some [isText] = some ps := hz
        cases hz'
        exact ⟨e_EDITS0, [.ref f_is_text], V_EDITS0, T_EDITS.yes V_EDITS0, fun H => W_EDITS0.sq H, (.cons ⟨_, rfl, tE_is_text⟩ .nil)⟩
      rw [if_neg c0] at hz
      by_cases c1 : ("splice" : Str) = z
      · subst c1
        have hz' : some [isCount, isCount, isText] = some ps := hz
        cases hz'
        exact ⟨e_EDITS1, [.ref f_is_count, .ref f_is_count, .ref f_is_text], V_EDITS1, T_EDITS.yes V_EDITS1, fun H => W_EDITS1.sq H, (.cons ⟨_, rfl, tE_is_count⟩ (.cons ⟨_, rfl, tE_is_count⟩ (.cons ⟨_, rfl, tE_is_text⟩ .nil)))⟩
      rw [if_neg c1] at hz
      by_cases c2 : ("remove" : Str) = z
      · subst c2
        have hz' : some [] = some ps := hz
        cases hz'
        exact ⟨e_EDITS2, [], V_EDITS2, T_EDITS.yes V_EDITS2, fun H => W_EDITS2.sq H, .nil⟩
      rw [if_neg c2] at hz
      by_cases c3 : ("take" : Str) = z
      · subst c3
        have hz' : some [isName] = some ps := hz
        cases hz'
        exact ⟨e_EDITS3, [.ref f_is_name], V_EDITS3, T_EDITS.yes V_EDITS3, fun H => W_EDITS3.sq H, (.cons ⟨_, rfl, tE_is_name⟩ .nil)⟩
      rw [if_neg c3] at hz
      by_cases c4 : ("adopt" : Str) = z
      · subst c4
        have hz' : some [isClient, isNumber] = some ps := hz
        cases hz'
        exact ⟨e_EDITS4, [.ref f_is_client, .ref f_is_number], V_EDITS4, T_EDITS.yes V_EDITS4, fun H => W_EDITS4.sq H, (.cons ⟨_, rfl, tE_is_client⟩ (.cons ⟨_, rfl, tE_is_number⟩ .nil))⟩
      rw [if_neg c4] at hz
      by_cases c5 : ("drop" : Str) = z
      · subst c5
        have hz' : some [isClient, isNumber] = some ps := hz
        cases hz'
        exact ⟨e_EDITS5, [.ref f_is_client, .ref f_is_number], V_EDITS5, T_EDITS.yes V_EDITS5, fun H => W_EDITS5.sq H, (.cons ⟨_, rfl, tE_is_client⟩ (.cons ⟨_, rfl, tE_is_number⟩ .nil))⟩
      rw [if_neg c5] at hz
      cases hz
  have D_has_word : L2.Def l.prog w K mg base 1 "has_word" f_has_word fd_has_word ["thing"] (SpF K (FJ any' isWord)) := def_of I_has_word X G Q_has_word (ok_has_word Q_has_word B) (Q_has_word.binds (ps := ["thing"]) fun _ _ _ _ _ _ us hl => match us, hl with | [_], _ => rfl)
  have D_is_integer : L2.Def l.prog w K mg base 1 "is_integer" f_is_integer fd_is_integer ["thing"] (SpF K F_is_integer) := def_of I_is_integer X G Q_is_integer (ok_is_integer Q_is_integer B) (Q_is_integer.binds (ps := ["thing"]) fun _ _ _ _ _ _ us hl => match us, hl with | [_], _ => rfl)
  have D_is_count : L2.Def l.prog w K mg base 2 "is_count" f_is_count fd_is_count ["thing"] (SpF K F_is_count) := def_of I_is_count X G Q_is_count (ok_is_count Q_is_count D_is_integer) (Q_is_count.binds (ps := ["thing"]) fun _ _ _ _ _ _ us hl => match us, hl with | [_], _ => rfl)
  have C_MOST_IN_NAME := PySem.W.mg_of X G N_MOST_IN_NAME
  have C_SIGNS := PySem.W.mg_of X G N_SIGNS
  have D_is_name : L2.Def l.prog w K mg base 1 "is_name" f_is_name fd_is_name ["thing"] (SpF K (FJ fit isName)) := def_of I_is_name X G Q_is_name (ok_is_name Q_is_name B C_MOST_IN_NAME C_SIGNS) (Q_is_name.binds (ps := ["thing"]) fun _ _ _ _ _ _ us hl => match us, hl with | [_], _ => rfl)
  have C_MOST_CLIENTS := PySem.W.mg_of X G N_MOST_CLIENTS
  have D_is_between : L2.Def l.prog w K mg base 2 "is_between" f_is_between fd_is_between ["thing", "least", "most"] (SpF K F_is_between) := def_of I_is_between X G Q_is_between (ok_is_between Q_is_between D_is_integer) (Q_is_between.binds (ps := ["thing", "least", "most"]) fun _ _ _ _ _ _ us hl => match us, hl with | [_, _, _], _ => rfl)
  have D_is_client : L2.Def l.prog w K mg base 3 "is_client" f_is_client fd_is_client ["thing"] (SpF K (FJ any' isClient)) := def_of I_is_client X G Q_is_client (ok_is_client Q_is_client C_MOST_CLIENTS D_is_between) (Q_is_client.binds (ps := ["thing"]) fun _ _ _ _ _ _ us hl => match us, hl with | [_], _ => rfl)
  have D_is_number : L2.Def l.prog w K mg base 2 "is_number" f_is_number fd_is_number ["thing"] (SpF K (FJ any' isNumber)) := def_of I_is_number X G Q_is_number (ok_is_number Q_is_number D_is_integer) (Q_is_number.binds (ps := ["thing"]) fun _ _ _ _ _ _ us hl => match us, hl with | [_], _ => rfl)
  have HSE : ∀ f sp, judgeS K tabE f = some sp → L2.Held l.prog w K mg base 3 f sp := hs_of fun q hq => by
    simp only [List.mem_cons, List.not_mem_nil, or_false] at hq
    rcases hq with rfl | rfl | rfl | rfl | rfl
    · exact held_of D_is_text (by decide) (fun _ h => h)
    · exact held_of D_is_count (by decide) (fun _ _ => rfl)
    · exact held_of D_is_name (by decide) (fun _ h => h)
    · exact held_of D_is_client (by decide) (fun _ _ => rfl)
    · exact held_of D_is_number (by decide) (fun _ _ => rfl)
  have D_are_allE : L2.Def l.prog w K mg base 4 "are_all" f_are_all fd_are_all ["things", "tests"] (SpF K (F_are_all tabE)) := def_of I_are_all X G Q_are_all (ok_are_all Q_are_all HSE B) (Q_are_all.binds (ps := ["things", "tests"]) fun _ _ _ _ _ _ us hl => match us, hl with | [_, _], _ => rfl)
  have D_is_edit : L2.Def l.prog w K mg base 5 "is_edit" f_is_edit fd_is_edit ["thing"] (SpF K (FJ fit isEdit)) := def_of I_is_edit X G Q_is_edit (ok_is_edit Q_is_edit C_EDITS K_EDITS QEDITS D_has_word D_are_allE) (Q_is_edit.binds (ps := ["thing"]) fun _ _ _ _ _ _ us hl => match us, hl with | [_], _ => rfl)
  have D_is_plain_edit : L2.Def l.prog w K mg base 6 "is_plain_edit" f_is_plain_edit fd_is_plain_edit ["thing"] (SpF K (FJ fit isPlainE)) := def_of I_is_plain_edit X G Q_is_plain_edit (ok_is_plain_edit Q_is_plain_edit C_PUT C_SPLICE C_REMOVE D_is_edit) (Q_is_plain_edit.binds (ps := ["thing"]) fun _ _ _ _ _ _ us hl => match us, hl with | [_], _ => rfl)
  have D_can_be_done : L2.Def l.prog w K mg base 1 "can_be_done" f_can_be_done fd_can_be_done ["text", "edit"] (SpF K F_canD) := def_of I_can_be_done X G Q_can_be_done (ok_can_be_done Q_can_be_done B C_PUT C_REMOVE C_MOST_IN_TEXT) (Q_can_be_done.binds (ps := ["text", "edit"]) fun _ _ _ _ _ _ us hl => match us, hl with | [_, _], _ => rfl)
  have D_raw_edited : L2.Def l.prog w K mg base 1 "raw_edited" f_raw_edited fd_raw_edited ["text", "edit"] (SpF K F_editedD) := def_of I_raw_edited X G Q_raw_edited (ok_raw_edited Q_raw_edited C_PUT C_REMOVE) (Q_raw_edited.binds (ps := ["text", "edit"]) fun _ _ _ _ _ _ us hl => match us, hl with | [_, _], _ => rfl)
  have D_edited : L2.DefX l.prog w K mg base 7 "edited" f_edited fd_edited ["text", "edit"] (SpX K (FX_edited C_NoText C_NoEdit C_Unfit)) := defX_of I_edited X G Q_edited (ok_edited Q_edited X_NoText X_NoEdit X_Unfit D_is_content D_is_plain_edit D_can_be_done D_raw_edited) (Q_edited.binds (ps := ["text", "edit"]) fun _ _ _ _ _ _ us hl => match us, hl with | [_, _], _ => rfl)
  have D__law_told : L2.Def l.prog w K mg base 8 "_law_told" f__law_told fd__law_told ["_law_text_here", "_law_edit_here"] (SpF K F_told2) := def_of I__law_told X G Q__law_told (ok__law_told Q__law_told X_NoText X_NoEdit X_Unfit X_LeaseError D_edited XM_NoText_NoText XM_NoEdit_NoText XM_NoEdit_NoEdit XM_Unfit_NoText XM_Unfit_NoEdit XM_Unfit_Unfit) (Q__law_told.binds (ps := ["_law_text_here", "_law_edit_here"]) fun _ _ _ _ _ _ us hl => match us, hl with | [_, _], _ => rfl)
  have D__law_done : L2.Def l.prog w K mg base 1 "_law_done" f__law_done fd__law_done ["_law_text_here", "_law_edit_here"] (SpF K FW_done) := def_of I__law_done X G Q__law_done (ok__law_done Q__law_done B) (Q__law_done.binds (ps := ["_law_text_here", "_law_edit_here"]) fun _ _ _ _ _ _ us hl => match us, hl with | [_, _], _ => rfl)
  have D__law_alike0 : L2.Def l.prog w K mg base 1 "_law_alike" f__law_alike fd__law_alike ["_law_told_here", "_law_due_here"] (SpF K (F_alikeC 0)) := def_of I__law_alike X G Q__law_alike (ok__law_alike0 Q__law_alike ) (Q__law_alike.binds (ps := ["_law_told_here", "_law_due_here"]) fun _ _ _ _ _ _ us hl => match us, hl with | [_, _], _ => rfl)
  have D__law_alike1 : L2.Def l.prog w K mg base 2 "_law_alike" f__law_alike fd__law_alike ["_law_told_here", "_law_due_here"] (SpF K (F_alikeC 1)) := def_of I__law_alike X G Q__law_alike (ok__law_alike Q__law_alike B D__law_alike0) (Q__law_alike.binds (ps := ["_law_told_here", "_law_due_here"]) fun _ _ _ _ _ _ us hl => match us, hl with | [_, _], _ => rfl)
  have X_NoTable := EX_NoTable.d X G
  have D__law_number : L2.Def l.prog w K mg base 4 "_law_number" f__law_number fd__law_number ["_law_well_here"] (SpF K (FWd drawnNum)) := def_of I__law_number X G Q__law_number (ok__law_number Q__law_number D__law_draw) (Q__law_number.binds (ps := ["_law_well_here"]) fun _ _ _ _ _ _ us hl => match us, hl with | [_], _ => rfl)
  have D__law_name : L2.Def l.prog w K mg base 4 "_law_name" f__law_name fd__law_name ["_law_well_here"] (SpF K (FWd drawnName)) := def_of I__law_name X G Q__law_name (ok__law_name Q__law_name B D__law_draw) (Q__law_name.binds (ps := ["_law_well_here"]) fun _ _ _ _ _ _ us hl => match us, hl with | [_], _ => rfl)
  have D__law_any0 : L2.Def l.prog w K mg base 5 "_law_any" f__law_any fd__law_any ["_law_well_here", "_law_deep"] (SpF K (FW_any 0)) := def_of I__law_any X G Q__law_any (ok__law_any0 Q__law_any ) (Q__law_any.binds (ps := ["_law_well_here", "_law_deep"]) fun _ _ _ _ _ _ us hl => match us, hl with | [_, _], _ => rfl)
  have D__law_any1 : L2.Def l.prog w K mg base 6 "_law_any" f__law_any fd__law_any ["_law_well_here", "_law_deep"] (SpF K (FW_any 1)) := def_of I__law_any X G Q__law_any (ok__law_any Q__law_any B X_NoTable XQ_NoTable D__law_draw D__law_number D__law_string D__law_name D__law_any0) (Q__law_any.binds (ps := ["_law_well_here", "_law_deep"]) fun _ _ _ _ _ _ us hl => match us, hl with | [_, _], _ => rfl)
  have D__law_any2 : L2.Def l.prog w K mg base 7 "_law_any" f__law_any fd__law_any ["_law_well_here", "_law_deep"] (SpF K (FW_any 2)) := def_of I__law_any X G Q__law_any (ok__law_any Q__law_any B X_NoTable XQ_NoTable D__law_draw D__law_number D__law_string D__law_name D__law_any1) (Q__law_any.binds (ps := ["_law_well_here", "_law_deep"]) fun _ _ _ _ _ _ us hl => match us, hl with | [_, _], _ => rfl)
  have D__law_any3 : L2.Def l.prog w K mg base 8 "_law_any" f__law_any fd__law_any ["_law_well_here", "_law_deep"] (SpF K (FW_any 3)) := def_of I__law_any X G Q__law_any (ok__law_any Q__law_any B X_NoTable XQ_NoTable D__law_draw D__law_number D__law_string D__law_name D__law_any2) (Q__law_any.binds (ps := ["_law_well_here", "_law_deep"]) fun _ _ _ _ _ _ us hl => match us, hl with | [_, _], _ => rfl)
  have D__law_odd_text : L2.Def l.prog w K mg base 9 "_law_odd_text" f__law_odd_text fd__law_odd_text ["_law_well_here", "_law_text_here"] (SpF K FW_oddT) := def_of I__law_odd_text X G Q__law_odd_text (ok__law_odd_text Q__law_odd_text D__law_draw D__law_any3) (Q__law_odd_text.binds (ps := ["_law_well_here", "_law_text_here"]) fun _ _ _ _ _ _ us hl => match us, hl with | [_, _], _ => rfl)
  have D__law_changed : L2.Def l.prog w K mg base 9 "_law_changed" f__law_changed fd__law_changed ["_law_thing", "_law_well_here"] (SpF K FW_changed) := def_of I__law_changed X G Q__law_changed (ok__law_changed Q__law_changed B D__law_draw D__law_any3) (Q__law_changed.binds (ps := ["_law_thing", "_law_well_here"]) fun _ _ _ _ _ _ us hl => match us, hl with | [_, _], _ => rfl)
  have D__law_nodes0 : L2.Def l.prog w K mg base 1 "_law_nodes" f__law_nodes fd__law_nodes ["_law_thing"] (SpF K (F_nodes 0)) := def_of I__law_nodes X G Q__law_nodes (ok__law_nodes0 Q__law_nodes ) (Q__law_nodes.binds (ps := ["_law_thing"]) fun _ _ _ _ _ _ us hl => match us, hl with | [_], _ => rfl)
  have D__law_nodes1 : L2.Def l.prog w K mg base 2 "_law_nodes" f__law_nodes fd__law_nodes ["_law_thing"] (SpF K (F_nodes 1)) := def_of I__law_nodes X G Q__law_nodes (ok__law_nodes Q__law_nodes B D__law_nodes0) (Q__law_nodes.binds (ps := ["_law_thing"]) fun _ _ _ _ _ _ us hl => match us, hl with | [_], _ => rfl)
  have D__law_nodes2 : L2.Def l.prog w K mg base 3 "_law_nodes" f__law_nodes fd__law_nodes ["_law_thing"] (SpF K (F_nodes 2)) := def_of I__law_nodes X G Q__law_nodes (ok__law_nodes Q__law_nodes B D__law_nodes1) (Q__law_nodes.binds (ps := ["_law_thing"]) fun _ _ _ _ _ _ us hl => match us, hl with | [_], _ => rfl)
  have D__law_nodes3 : L2.Def l.prog w K mg base 4 "_law_nodes" f__law_nodes fd__law_nodes ["_law_thing"] (SpF K (F_nodes 3)) := def_of I__law_nodes X G Q__law_nodes (ok__law_nodes Q__law_nodes B D__law_nodes2) (Q__law_nodes.binds (ps := ["_law_thing"]) fun _ _ _ _ _ _ us hl => match us, hl with | [_], _ => rfl)
  have D__law_spoilt0 : L2.Def l.prog w K mg base 9 "_law_spoilt" f__law_spoilt fd__law_spoilt ["_law_thing", "_law_at", "_law_well_here"] (SpF K (FW_spoilt 0)) := def_of I__law_spoilt X G Q__law_spoilt (ok__law_spoilt0 Q__law_spoilt ) (Q__law_spoilt.binds (ps := ["_law_thing", "_law_at", "_law_well_here"]) fun _ _ _ _ _ _ us hl => match us, hl with | [_, _, _], _ => rfl)
  have D__law_spoilt1 : L2.Def l.prog w K mg base 10 "_law_spoilt" f__law_spoilt fd__law_spoilt ["_law_thing", "_law_at", "_law_well_here"] (SpF K (FW_spoilt 1)) := def_of I__law_spoilt X G Q__law_spoilt (ok__law_spoilt Q__law_spoilt B D__law_changed D__law_nodes3 D__law_spoilt0) (Q__law_spoilt.binds (ps := ["_law_thing", "_law_at", "_law_well_here"]) fun _ _ _ _ _ _ us hl => match us, hl with | [_, _, _], _ => rfl)
  have D__law_spoilt2 : L2.Def l.prog w K mg base 11 "_law_spoilt" f__law_spoilt fd__law_spoilt ["_law_thing", "_law_at", "_law_well_here"] (SpF K (FW_spoilt 2)) := def_of I__law_spoilt X G Q__law_spoilt (ok__law_spoilt Q__law_spoilt B D__law_changed D__law_nodes3 D__law_spoilt1) (Q__law_spoilt.binds (ps := ["_law_thing", "_law_at", "_law_well_here"]) fun _ _ _ _ _ _ us hl => match us, hl with | [_, _, _], _ => rfl)
  have D__law_spoilt3 : L2.Def l.prog w K mg base 12 "_law_spoilt" f__law_spoilt fd__law_spoilt ["_law_thing", "_law_at", "_law_well_here"] (SpF K (FW_spoilt 3)) := def_of I__law_spoilt X G Q__law_spoilt (ok__law_spoilt Q__law_spoilt B D__law_changed D__law_nodes3 D__law_spoilt2) (Q__law_spoilt.binds (ps := ["_law_thing", "_law_at", "_law_well_here"]) fun _ _ _ _ _ _ us hl => match us, hl with | [_, _, _], _ => rfl)
  have D__law_client : L2.Def l.prog w K mg base 4 "_law_client" f__law_client fd__law_client ["_law_well_here"] (SpF K (FWd drawnClient)) := def_of I__law_client X G Q__law_client (ok__law_client Q__law_client D__law_draw) (Q__law_client.binds (ps := ["_law_well_here"]) fun _ _ _ _ _ _ us hl => match us, hl with | [_], _ => rfl)
  have D__law_edit : L2.Def l.prog w K mg base 6 "_law_edit" f__law_edit fd__law_edit ["_law_well_here"] (SpF K (FWd drawnEdit)) := def_of I__law_edit X G Q__law_edit (ok__law_edit Q__law_edit D__law_draw D__law_text D__law_number D__law_name D__law_client) (Q__law_edit.binds (ps := ["_law_well_here"]) fun _ _ _ _ _ _ us hl => match us, hl with | [_], _ => rfl)
  have D__law_odd_edit : L2.Def l.prog w K mg base 13 "_law_odd_edit" f__law_odd_edit fd__law_odd_edit ["_law_well_here", "_law_edit_here"] (SpF K FW_oddE) := def_of I__law_odd_edit X G Q__law_odd_edit (ok__law_odd_edit Q__law_odd_edit D__law_draw D__law_spoilt3 D__law_nodes3 D__law_edit D__law_any3) (Q__law_odd_edit.binds (ps := ["_law_well_here", "_law_edit_here"]) fun _ _ _ _ _ _ us hl => match us, hl with | [_, _], _ => rfl)
  have D__law_text_fits : L2.Def l.prog w K mg base 1 "_law_text_fits" f__law_text_fits fd__law_text_fits ["_law_thing"] (SpF K (FJ fit isText)) := def_of I__law_text_fits X G Q__law_text_fits (ok__law_text_fits Q__law_text_fits B) (Q__law_text_fits.binds (ps := ["_law_thing"]) fun _ _ _ _ _ _ us hl => match us, hl with | [_], _ => rfl)
  have D__law_count : L2.Def l.prog w K mg base 1 "_law_count" f__law_count fd__law_count ["_law_thing"] (SpF K F_is_int1) := def_of I__law_count X G Q__law_count (ok__law_count Q__law_count B) (Q__law_count.binds (ps := ["_law_thing"]) fun _ _ _ _ _ _ us hl => match us, hl with | [_], _ => rfl)
  have D__law_name_fits : L2.Def l.prog w K mg base 1 "_law_name_fits" f__law_name_fits fd__law_name_fits ["_law_thing"] (SpF K (FJ fit isName)) := def_of I__law_name_fits X G Q__law_name_fits (ok__law_name_fits Q__law_name_fits B) (Q__law_name_fits.binds (ps := ["_law_thing"]) fun _ _ _ _ _ _ us hl => match us, hl with | [_], _ => rfl)
  have D__law_long : L2.Def l.prog w K mg base 1 "_law_long" f__law_long fd__law_long ["_law_thing", "_law_many"] (SpF K F_is_long) := def_of I__law_long X G Q__law_long (ok__law_long Q__law_long B) (Q__law_long.binds (ps := ["_law_thing", "_law_many"]) fun _ _ _ _ _ _ us hl => match us, hl with | [_, _], _ => rfl)
  have D__law_client_fits : L2.Def l.prog w K mg base 2 "_law_client_fits" f__law_client_fits fd__law_client_fits ["_law_thing"] (SpF K (FJ any' isClient)) := def_of I__law_client_fits X G Q__law_client_fits (ok__law_client_fits Q__law_client_fits D__law_count) (Q__law_client_fits.binds (ps := ["_law_thing"]) fun _ _ _ _ _ _ us hl => match us, hl with | [_], _ => rfl)
  have D__law_pair_fits : L2.Def l.prog w K mg base 3 "_law_pair_fits" f__law_pair_fits fd__law_pair_fits ["_law_thing"] (SpF K (FJ any' isPair)) := def_of I__law_pair_fits X G Q__law_pair_fits (ok__law_pair_fits Q__law_pair_fits D__law_long D__law_client_fits D__law_count) (Q__law_pair_fits.binds (ps := ["_law_thing"]) fun _ _ _ _ _ _ us hl => match us, hl with | [_], _ => rfl)
  have D__law_edit_fits : L2.Def l.prog w K mg base 4 "_law_edit_fits" f__law_edit_fits fd__law_edit_fits ["_law_thing"] (SpF K (FJ fit isEdit)) := def_of I__law_edit_fits X G Q__law_edit_fits (ok__law_edit_fits Q__law_edit_fits B D__law_text_fits D__law_count D__law_name_fits D__law_pair_fits) (Q__law_edit_fits.binds (ps := ["_law_thing"]) fun _ _ _ _ _ _ us hl => match us, hl with | [_], _ => rfl)
  have D__law_due : L2.Def l.prog w K mg base 5 "_law_due" f__law_due fd__law_due ["_law_text_here", "_law_edit_here"] (SpF K FW_due) := def_of I__law_due X G Q__law_due (ok__law_due Q__law_due D__law_text_fits D__law_edit_fits D__law_done) (Q__law_due.binds (ps := ["_law_text_here", "_law_edit_here"]) fun _ _ _ _ _ _ us hl => match us, hl with | [_, _], _ => rfl)
  have D__law_is_back : L2.Def l.prog w K mg base 9 "_law_is_back" f__law_is_back fd__law_is_back ["_law_text_here", "_law_edit_here", "_law_told_here"] (SpF K FW_back) := def_of I__law_is_back X G Q__law_is_back (ok__law_is_back Q__law_is_back B D__law_told) (Q__law_is_back.binds (ps := ["_law_text_here", "_law_edit_here", "_law_told_here"]) fun _ _ _ _ _ _ us hl => match us, hl with | [_, _, _], _ => rfl)
  exact (ok_law Q_law B D__law_well D__law_content D__law_draw D__law_plain D__law_told D__law_done D__law_alike1 D__law_odd_text D__law_odd_edit D__law_due D__law_is_back).imp fun vs H Q E h => spLaw_of h
end Pr
set_option Elab.async false
set_option linter.all false
set_option maxRecDepth 100000
set_option maxHeartbeats 0
set_option pp.maxSteps 60
section
open PySem PySem.W PyProof.Rows
theorem PySem.Challenge.cw_leasefiles_k02_whole_edits_of_texts_holds : PySem.Challenge.rw_leasefiles_k02_whole_edits_of_texts.Holds := by
  refine Hd.top (Dl.walkH (l := PySem.Challenge.rw_leasefiles_k02_whole_edits_of_texts) (k := 14) rfl (by kernel_rfl) (by kernel_rfl) ⟨rfl, by decide, by decide⟩ ?F)
  case F =>
    intro w K mg fa h X c G hmg
    exact Pr.all_mk X G hmg
      ((Dl.df_is (st := Pr.s_law) (c.x 0 (f := .df "law") rfl) (c.f 0 (d := Dl.fnT "law" Pr.s_law) rfl)))
      ((Dl.df_is (st := Pr.s__law_well) (c.x 1 (f := .df "_law_well") rfl) (c.f 1 (d := Dl.fnT "_law_well" Pr.s__law_well) rfl)))
      ((Dl.df_is (st := Pr.s__law_content) (c.x 2 (f := .df "_law_content") rfl) (c.f 2 (d := Dl.fnT "_law_content" Pr.s__law_content) rfl)))
      ((Dl.df_is (st := Pr.s__law_draw) (c.x 3 (f := .df "_law_draw") rfl) (c.f 3 (d := Dl.fnT "_law_draw" Pr.s__law_draw) rfl)))
      ((Dl.df_is (st := Pr.s__law_filled) (c.x 4 (f := .df "_law_filled") rfl) (c.f 4 (d := Dl.fnT "_law_filled" Pr.s__law_filled) rfl)))
      ((Dl.df_is (st := Pr.s__law_mixed) (c.x 5 (f := .df "_law_mixed") rfl) (c.f 5 (d := Dl.fnT "_law_mixed" Pr.s__law_mixed) rfl)))
      ((Dl.df_is (st := Pr.s__law_text) (c.x 6 (f := .df "_law_text") rfl) (c.f 6 (d := Dl.fnT "_law_text" Pr.s__law_text) rfl)))
      ((Dl.df_is (st := Pr.s__law_string) (c.x 7 (f := .df "_law_string") rfl) (c.f 7 (d := Dl.fnT "_law_string" Pr.s__law_string) rfl)))
      ((Dl.df_is (st := Pr.s__law_signs) (c.x 8 (f := .df "_law_signs") rfl) (c.f 8 (d := Dl.fnT "_law_signs" Pr.s__law_signs) rfl)))
      ((Dl.df_is (st := Pr.s__law_plain) (c.x 9 (f := .df "_law_plain") rfl) (c.f 9 (d := Dl.fnT "_law_plain" Pr.s__law_plain) rfl)))
      ((Dl.df_is (st := Pr.s__law_told) (c.x 10 (f := .df "_law_told") rfl) (c.f 10 (d := Dl.fnT "_law_told" Pr.s__law_told) rfl)))
      ((Dl.df_is (st := Pr.s_edited) (c.x 11 (f := .df "edited") rfl) (c.f 11 (d := Dl.fnT "edited" Pr.s_edited) rfl)))
      ((Dl.df_is (st := Pr.s_is_content) (c.x 12 (f := .df "is_content") rfl) (c.f 12 (d := Dl.fnT "is_content" Pr.s_is_content) rfl)))
      ((Dl.df_is (st := Pr.s_is_text) (c.x 13 (f := .df "is_text") rfl) (c.f 13 (d := Dl.fnT "is_text" Pr.s_is_text) rfl)))
      ((Dl.df_is (st := Pr.s_is_plain_edit) (c.x 14 (f := .df "is_plain_edit") rfl) (c.f 14 (d := Dl.fnT "is_plain_edit" Pr.s_is_plain_edit) rfl)))
      ((Dl.df_is (st := Pr.s_is_edit) (c.x 15 (f := .df "is_edit") rfl) (c.f 15 (d := Dl.fnT "is_edit" Pr.s_is_edit) rfl)))
      ((Dl.df_is (st := Pr.s_is_count) (c.x 16 (f := .df "is_count") rfl) (c.f 16 (d := Dl.fnT "is_count" Pr.s_is_count) rfl)))
      ((Dl.df_is (st := Pr.s_is_name) (c.x 17 (f := .df "is_name") rfl) (c.f 17 (d := Dl.fnT "is_name" Pr.s_is_name) rfl)))
      ((Dl.df_is (st := Pr.s_is_client) (c.x 18 (f := .df "is_client") rfl) (c.f 18 (d := Dl.fnT "is_client" Pr.s_is_client) rfl)))
      ((Dl.df_is (st := Pr.s_is_number) (c.x 19 (f := .df "is_number") rfl) (c.f 19 (d := Dl.fnT "is_number" Pr.s_is_number) rfl)))
      ((Dl.df_is (st := Pr.s_has_word) (c.x 20 (f := .df "has_word") rfl) (c.f 20 (d := Dl.fnT "has_word" Pr.s_has_word) rfl)))
      ((Dl.df_is (st := Pr.s_are_all) (c.x 21 (f := .df "are_all") rfl) (c.f 21 (d := Dl.fnT "are_all" Pr.s_are_all) rfl)))
      ((Dl.df_is (st := Pr.s_is_integer) (c.x 22 (f := .df "is_integer") rfl) (c.f 22 (d := Dl.fnT "is_integer" Pr.s_is_integer) rfl)))
      ((Dl.df_is (st := Pr.s_is_between) (c.x 23 (f := .df "is_between") rfl) (c.f 23 (d := Dl.fnT "is_between" Pr.s_is_between) rfl)))
      ((Dl.df_is (st := Pr.s_can_be_done) (c.x 24 (f := .df "can_be_done") rfl) (c.f 24 (d := Dl.fnT "can_be_done" Pr.s_can_be_done) rfl)))
      ((Dl.df_is (st := Pr.s_raw_edited) (c.x 25 (f := .df "raw_edited") rfl) (c.f 25 (d := Dl.fnT "raw_edited" Pr.s_raw_edited) rfl)))
      ((Dl.df_is (st := Pr.s__law_done) (c.x 26 (f := .df "_law_done") rfl) (c.f 26 (d := Dl.fnT "_law_done" Pr.s__law_done) rfl)))
      ((Dl.df_is (st := Pr.s__law_alike) (c.x 27 (f := .df "_law_alike") rfl) (c.f 27 (d := Dl.fnT "_law_alike" Pr.s__law_alike) rfl)))
      ((Dl.df_is (st := Pr.s__law_odd_text) (c.x 28 (f := .df "_law_odd_text") rfl) (c.f 28 (d := Dl.fnT "_law_odd_text" Pr.s__law_odd_text) rfl)))
      ((Dl.df_is (st := Pr.s__law_any) (c.x 29 (f := .df "_law_any") rfl) (c.f 29 (d := Dl.fnT "_law_any" Pr.s__law_any) rfl)))
      ((Dl.df_is (st := Pr.s__law_number) (c.x 30 (f := .df "_law_number") rfl) (c.f 30 (d := Dl.fnT "_law_number" Pr.s__law_number) rfl)))
      ((Dl.df_is (st := Pr.s__law_name) (c.x 31 (f := .df "_law_name") rfl) (c.f 31 (d := Dl.fnT "_law_name" Pr.s__law_name) rfl)))
      ((Dl.df_is (st := Pr.s__law_odd_edit) (c.x 32 (f := .df "_law_odd_edit") rfl) (c.f 32 (d := Dl.fnT "_law_odd_edit" Pr.s__law_odd_edit) rfl)))
      ((Dl.df_is (st := Pr.s__law_spoilt) (c.x 33 (f := .df "_law_spoilt") rfl) (c.f 33 (d := Dl.fnT "_law_spoilt" Pr.s__law_spoilt) rfl)))
      ((Dl.df_is (st := Pr.s__law_changed) (c.x 34 (f := .df "_law_changed") rfl) (c.f 34 (d := Dl.fnT "_law_changed" Pr.s__law_changed) rfl)))
      ((Dl.df_is (st := Pr.s__law_nodes) (c.x 35 (f := .df "_law_nodes") rfl) (c.f 35 (d := Dl.fnT "_law_nodes" Pr.s__law_nodes) rfl)))
      ((Dl.df_is (st := Pr.s__law_edit) (c.x 36 (f := .df "_law_edit") rfl) (c.f 36 (d := Dl.fnT "_law_edit" Pr.s__law_edit) rfl)))
      ((Dl.df_is (st := Pr.s__law_client) (c.x 37 (f := .df "_law_client") rfl) (c.f 37 (d := Dl.fnT "_law_client" Pr.s__law_client) rfl)))
      ((Dl.df_is (st := Pr.s__law_due) (c.x 38 (f := .df "_law_due") rfl) (c.f 38 (d := Dl.fnT "_law_due" Pr.s__law_due) rfl)))
      ((Dl.df_is (st := Pr.s__law_text_fits) (c.x 39 (f := .df "_law_text_fits") rfl) (c.f 39 (d := Dl.fnT "_law_text_fits" Pr.s__law_text_fits) rfl)))
      ((Dl.df_is (st := Pr.s__law_edit_fits) (c.x 40 (f := .df "_law_edit_fits") rfl) (c.f 40 (d := Dl.fnT "_law_edit_fits" Pr.s__law_edit_fits) rfl)))
      ((Dl.df_is (st := Pr.s__law_count) (c.x 41 (f := .df "_law_count") rfl) (c.f 41 (d := Dl.fnT "_law_count" Pr.s__law_count) rfl)))
      ((Dl.df_is (st := Pr.s__law_name_fits) (c.x 42 (f := .df "_law_name_fits") rfl) (c.f 42 (d := Dl.fnT "_law_name_fits" Pr.s__law_name_fits) rfl)))
      ((Dl.df_is (st := Pr.s__law_pair_fits) (c.x 43 (f := .df "_law_pair_fits") rfl) (c.f 43 (d := Dl.fnT "_law_pair_fits" Pr.s__law_pair_fits) rfl)))
      ((Dl.df_is (st := Pr.s__law_long) (c.x 44 (f := .df "_law_long") rfl) (c.f 44 (d := Dl.fnT "_law_long" Pr.s__law_long) rfl)))
      ((Dl.df_is (st := Pr.s__law_client_fits) (c.x 45 (f := .df "_law_client_fits") rfl) (c.f 45 (d := Dl.fnT "_law_client_fits" Pr.s__law_client_fits) rfl)))
      ((Dl.df_is (st := Pr.s__law_is_back) (c.x 46 (f := .df "_law_is_back") rfl) (c.f 46 (d := Dl.fnT "_law_is_back" Pr.s__law_is_back) rfl)))
      ((Dl.int_ns (c.x 47 (f := .fa (.int "MOST_IN_TEXT" (96))) rfl)).choose_spec)
      ((Dl.str_ns (c.x 48 (f := .fa (.str "PUT" "put")) rfl)).choose_spec)
      ((Dl.str_ns (c.x 49 (f := .fa (.str "SPLICE" "splice")) rfl)).choose_spec)
      ((Dl.str_ns (c.x 50 (f := .fa (.str "REMOVE" "remove")) rfl)).choose_spec)
      ((Dl.glo_ns (c.x 51 (f := .fa (.glo "EDITS")) rfl)))
      ((Dl.int_ns (c.x 52 (f := .fa (.int "MOST_IN_NAME" (8))) rfl)).choose_spec)
      ((Dl.str_ns (c.x 53 (f := .fa (.str "SIGNS" "abcdefghijklmnopqrstuvwxyz")) rfl)).choose_spec)
      ((Dl.int_ns (c.x 54 (f := .fa (.int "MOST_CLIENTS" (9))) rfl)).choose_spec)
      ((c.t 0 (t := ("EDITS", ["put", "splice", "remove", "take", "adopt", "drop"])) rfl).choose_spec.choose_spec)
      ((Dl.ex_is (c.x 55 (f := .ex "NoText") rfl)))
      ((Dl.ex_is (c.x 56 (f := .ex "NoEdit") rfl)))
      ((Dl.ex_is (c.x 57 (f := .ex "Unfit") rfl)))
      ((Dl.ex_is (c.x 58 (f := .ex "LeaseError") rfl)))
      ((Dl.va_ns (c.x 59 (f := .va "EDITS" "put") rfl)))
      ((Dl.tp_ns (c.x 60 (f := .tp (fun K => (Dl.dvA K (He.ga K "EDITS") "put")) [.glo "is_text"]) rfl)))
      ((Dl.va_ns (c.x 61 (f := .va "EDITS" "splice") rfl)))
      ((Dl.tp_ns (c.x 62 (f := .tp (fun K => (Dl.dvA K (He.ga K "EDITS") "splice")) [.glo "is_count", .glo "is_count", .glo "is_text"]) rfl)))
      ((Dl.va_ns (c.x 63 (f := .va "EDITS" "remove") rfl)))
      ((Dl.tp_ns (c.x 64 (f := .tp (fun K => (Dl.dvA K (He.ga K "EDITS") "remove")) []) rfl)))
      ((Dl.va_ns (c.x 65 (f := .va "EDITS" "take") rfl)))
      ((Dl.tp_ns (c.x 66 (f := .tp (fun K => (Dl.dvA K (He.ga K "EDITS") "take")) [.glo "is_name"]) rfl)))
      ((Dl.va_ns (c.x 67 (f := .va "EDITS" "adopt") rfl)))
      ((Dl.tp_ns (c.x 68 (f := .tp (fun K => (Dl.dvA K (He.ga K "EDITS") "adopt")) [.glo "is_client", .glo "is_number"]) rfl)))
      ((Dl.va_ns (c.x 69 (f := .va "EDITS" "drop") rfl)))
      ((Dl.tp_ns (c.x 70 (f := .tp (fun K => (Dl.dvA K (He.ga K "EDITS") "drop")) [.glo "is_client", .glo "is_number"]) rfl)))
      ((Dl.xm_is (c.x 71 (f := .xm "NoText" "NoText" true) rfl)))
      ((Dl.xm_is (c.x 72 (f := .xm "NoEdit" "NoText" false) rfl)))
      ((Dl.xm_is (c.x 73 (f := .xm "NoEdit" "NoEdit" true) rfl)))
      ((Dl.xm_is (c.x 74 (f := .xm "Unfit" "NoText" false) rfl)))
      ((Dl.xm_is (c.x 75 (f := .xm "Unfit" "NoEdit" false) rfl)))
      ((Dl.xm_is (c.x 76 (f := .xm "Unfit" "Unfit" true) rfl)))
      ((Dl.ex_is (c.x 77 (f := .ex "NoTable") rfl)))
      ((Dl.xq_is (c.x 78 (f := .xq "NoTable") rfl)))
      ((Dl.free_ns (c.x 79 (f := .fa (.free "isinstance")) rfl)))
      ((Dl.free_ns (c.x 80 (f := .fa (.free "len")) rfl)))
      ((Dl.free_ns (c.x 81 (f := .fa (.free "all")) rfl)))
      ((Dl.free_ns (c.x 82 (f := .fa (.free "range")) rfl)))
      ((Dl.free_ns (c.x 83 (f := .fa (.free "zip")) rfl)))
      ((Dl.free_ns (c.x 84 (f := .fa (.free "int")) rfl)))
      ((Dl.free_ns (c.x 85 (f := .fa (.free "str")) rfl)))
      ((Dl.free_ns (c.x 86 (f := .fa (.free "bool")) rfl)))
      ((Dl.free_ns (c.x 87 (f := .fa (.free "tuple")) rfl)))
      ((Dl.free_ns (c.x 88 (f := .fa (.free "list")) rfl)))
      ((Dl.free_ns (c.x 89 (f := .fa (.free "abs")) rfl)))
      ((Dl.free_ns (c.x 90 (f := .fa (.free "max")) rfl)))
      ((Dl.free_ns (c.x 91 (f := .fa (.free "enumerate")) rfl)))
      ((Dl.free_ns (c.x 92 (f := .fa (.free "sorted")) rfl)))
      ((Dl.free_ns (c.x 93 (f := .fa (.free "sum")) rfl)))
      ((Dl.free_ns (c.x 94 (f := .fa (.free "min")) rfl)))
      ((Dl.free_ns (c.x 95 (f := .fa (.free "any")) rfl)))
      ((Dl.free_ns (c.x 96 (f := .fa (.free "repr")) rfl)))
      ((Dl.free_ns (c.x 97 (f := .fa (.free "ord")) rfl)))
      ((Dl.free_ns (c.x 98 (f := .fa (.free "dict")) rfl)))
      ((Dl.free_ns (c.x 99 (f := .fa (.free "set")) rfl)))
      ((Dl.free_ns (c.x 100 (f := .fa (.free "ValueError")) rfl)))
end
#print axioms PySem.Challenge.cw_leasefiles_k02_whole_edits_of_texts_holds
