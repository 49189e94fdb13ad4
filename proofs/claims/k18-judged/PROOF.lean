import PyProof.Rows.All
import Wide.All
import OpenK.AllK
import Wide.FinOn
import KE.KStateDown
import HandS.Words
import HandS.Head2
import HandS.HeadEnd
import HandS.HeadHook1
import HandS.HeadHook2
import HandS.HeadHook3
import HandS.ExcIs
import HandS.ExcOwn
import PySem.Challenge.RW_leasefiles_k18_sheets_and_notes_judged
import HandS.ForMost
import HandS.IsInst
import HandS.TupAny
import HandS.More
import HandS.Zip
import HandS.CallLocal
import HandS.Exc
import KE.LtData
import KE.GoesNew
import HandS.Style
import HandS.Wide
import HandS.Conv
import HandS.SortRule
import KE.GoesEnum
import KE.DataMinMax
import HandS.ForExc
import HandS.TryMany
import HandS.Deep
import HandS.Strs
import PyProof.StrBlock2
import PyProof.NeKinds
set_option Elab.async false
set_option linter.all false
set_option autoImplicit false
set_option maxRecDepth 100000
set_option maxHeartbeats 4000000
namespace Dl
open PySem PySem.Spec PyProof.Rows PySem.Calls L2
inductive Sn where
  | nil
  | node (b : Bool) (l r : Sn)
def Sn.has : Nat → Sn → Nat → Bool
  | 0, _, _ => true
  | _ + 1, .nil, _ => false
  | n + 1, .node b l r, i => match Nat.beq i 0 with
    | true => b
    | false => match Nat.beq (i % 2) 1 with
      | true => Sn.has n l (i / 2)
      | false => Sn.has n r (i / 2 - 1)
def Sn.ins : Nat → Sn → Nat → Sn
  | 0, t, _ => t
  | n + 1, .nil, i => match Nat.beq i 0 with
    | true => .node true .nil .nil
    | false => match Nat.beq (i % 2) 1 with
      | true => .node false (Sn.ins n .nil (i / 2)) .nil
      | false => .node false .nil (Sn.ins n .nil (i / 2 - 1))
  | n + 1, .node b l r, i => match Nat.beq i 0 with
    | true => .node true l r
    | false => match Nat.beq (i % 2) 1 with
      | true => .node b (Sn.ins n l (i / 2)) r
      | false => .node b l (Sn.ins n r (i / 2 - 1))
/-- what an object names, as far as facts go -/
def refsX (o : Obj) : List Addr := match o.cls with
  | .type "module" => []
  | _ => match o.data with
    | .seq its _ => its.toList.flatMap He.refV
    | .dict es _ => es.toList.flatMap fun e => He.refV e.val
    | .func fd => He.refV fd.code
    | .cls cd => cd.ns :: cd.mro.flatMap He.refV
    | _ => []
def reachF (g : Addr → Option Obj) : Nat → List Addr → Sn → List Addr → List Addr
  | 0, _, _, acc => acc
  | _ + 1, [], _, acc => acc
  | n + 1, a :: r, t, acc => HandSHeadRun.frNat a fun a => match Sn.has 40 t a with
    | true => reachF g n r t acc
    | false => match g a with
      | some o => reachF g n (refsX o ++ r) (Sn.ins 40 t a) (a :: acc)
      | none => reachF g n r (Sn.ins 40 t a) acc
def frList {α β : Type} : List α → (List α → β) → β
  | [], k => k []
  | x :: r, k => frList r fun r' => k (x :: r')
theorem frList_eq {α β : Type} : ∀ (l : List α) (k : List α → β), frList l k = k l
  | [], k => rfl
  | x :: r, k => by
    show frList r (fun r' => k (x :: r')) = _
    rw [frList_eq r]
def frOf (g : Addr → Option Obj) : PySem.W.Frag := He.frG g (reachF g 400000 [mainGlobals] .nil []).reverse
def itA (K : PySem.W.Frag) (a : Addr) (i : Nat) : Addr := match K.lookup a with
  | some ⟨_, _, .seq its _, _⟩ => (match its.toList[i]? with
    | some (.ref b) => b
    | _ => 0)
  | _ => 0
def dvA (K : PySem.W.Frag) (a : Addr) (k : Str) : Addr := match PySem.W.nsIn K a k with
  | some (some (.ref b)) => b
  | _ => 0
inductive Fx where
  | fa (f : He.Fa)
  | df (x : Str)
  | mt (c m q : Str)
  | cl (c : Str)
  | tp (a : PySem.W.Frag → Addr) (vs : List He.Dv)
  | va (n k : Str)
  | ex (c : Str)
  | ef (l d : Str)
  | en (d e : Str)
def isOB (o : Option Bool) (b : Bool) : Bool := match o with
  | some true => b
  | some false => !b
  | none => false
def isTy (o : Option Value) (n : String) : Bool := match o with
  | some (.type m) => decide (m = n)
  | _ => false
/-- what an own error class answers -/
def errC (K : PySem.W.Frag) (C : Addr) : Bool :=
  (PySem.W.excIn K C [.type "ValueError", .type "Exception", .type "BaseException", .type "object"] "ValueError.__new__" && (PySem.W.keepIn K (.ref C) && (isOB (PySem.W.subIn K (.ref C) (.type "BaseException")) true && isTy (PySem.W.typeIn K (.ref C)) "type"))) &&
  ((He.eqO (PySem.W.findIn K (.ref C) "__getattribute__") (some (some (.builtin "BaseException.__getattribute__"))) && (He.eqO (PySem.W.findIn K (.ref C) "__getattr__") (some none) && (PySem.W.hasDictIn K C && He.eqO (PySem.W.findIn K (.ref C) "__class__") (some (some (.builtin "object.__class__")))))) &&
  (He.eqO (PySem.W.specialIn K (.builtin "object.__class__") "__get__") (some (some (.builtin "getset_descriptor.__get__"))) && (isOB (PySem.W.takesIn K (.builtin "object.__class__")) true && isOB (PySem.W.mroIn K C (.type "object")) true)))
def tupC (K : PySem.W.Frag) (a : Addr) (vs : List V) : Bool := match K.lookup a with
  | some ⟨.type c, _, .seq its _, _⟩ => decide (c = "tuple") && (Nat.ble its.toList.length 1000 && He.relAll vs its.toList)
  | _ => false
def Fx.ok (K : PySem.W.Frag) : Fx → Bool
  | .fa f => f.ok K
  | .df x => (He.Fa.glo x).ok K && ((He.Fa.keep x).ok K && (He.Fa.code (x, none) x).ok K)
  | .mt c m q => (He.Fa.meth c m).ok K && (He.Fa.code (c, some m) q).ok K
  | .cl c => (He.Fa.glo c).ok K && ((He.Fa.cls c).ok K && (PySem.W.makesIn K (He.ga K c) && PySem.W.keepIn K (.ref (He.ga K c))))
  | .tp a vs => tupC K (a K) (vs.map (He.Dv.v K))
  | .ex c => (He.Fa.glo c).ok K && errC K (He.ga K c)
  | .ef l d => isOB (PySem.W.exmOne K (.ref (He.ga K d)) (.ref (He.ga K l))) true && (isOB (PySem.W.kitOne K (.ref (He.ga K d)) (.type "ValueError")) true && isOB (PySem.W.kitOne K (.ref (He.ga K d)) (.ref (He.ga K d))) true)
  | .en d e => isOB (PySem.W.kitOne K (.ref (He.ga K d)) (.ref (He.ga K e))) false
  | .va n k => He.eqO (PySem.W.nsIn K (He.ga K n) k) (some (some (.ref (dvA K (He.ga K n) k))))
def fnT (x : Str) (st : Stmt) : He.FnD := ⟨(x, none), x, x, defArgs st, defBody st, defScope st⟩
abbrev AlH : Type := Bool × List He.FnV × List (Option (List (Option (Str × Int))))
def obsH (fx : List Fx) (fn : List He.FnD) (ts : List (Str × List Str)) (K : PySem.W.Frag) : AlH := (fx.all fun f => f.ok K, fn.map fun d => He.fnObs K d.at_, ts.map fun t => He.dicW K (He.ga K t.1))
def valH (fn : List He.FnD) (ts : List (Str × List Str)) (w : World) : AlH := (true, fn.map He.FnD.val, ts.map fun t => some (He.keysIn w.params t.2))
def SaysH (fx : List Fx) (fn : List He.FnD) (ts : List (Str × List Str)) (w : World) (K : PySem.W.Frag) : Prop := obsH fx fn ts K = valH fn ts w
def obsHG (fx : List Fx) (fn : List He.FnD) (ts : List (Str × List Str)) (g : Addr → Option Obj) : AlH := frList (frOf g) (obsH fx fn ts)
def hookH (fx : List Fx) (fn : List He.FnD) (ts : List (Str × List Str)) : PySem.W.Hook where
  α := AlH
  obs := fun s => obsHG fx fn ts s.heap.get?
  val := valH fn ts
  says := fun w h => ∃ K : PySem.W.Frag, K.In h ∧ SaysH fx fn ts w K
  of := fun w s e => ⟨frOf s.heap.get?, He.frG_in, by
    have e2 : frList (frOf s.heap.get?) (obsH fx fn ts) = valH fn ts w := e
    rw [frList_eq] at e2
    exact e2⟩
  keeps := fun _ _ _ ⟨K, hK, c⟩ k => ⟨K, PySem.W.Frag.In.keeps hK k, c⟩
theorem obH_eq {fx : List Fx} {fn : List He.FnD} {ts : List (Str × List Str)} (s : PySem.W.SharedT) : obsHG fx fn ts (HandSHeadRun.getT s) = (hookH fx fn ts).obs s.abs := by
  have e : HandSHeadRun.getT s = s.abs.heap.get? := funext (HandSHeadRun.getT_eq s)
  rw [e] <;> rfl
/-- two runs for one: the looks, the facts -/
theorem run_two {r : PySem.W.OpenRow} {q : Program} {H : PySem.W.Hook} {ob : PySem.W.SharedT → H.α} {M : Nat} {loose : List Str} {w : World}
    (h1 : ∀ os, (HandSHeadRun.endF (HandSHeadRun.stepQ (HandSHeadRun.denQ HandSHeadRun.tabQ) r.prog w) M r.prog w os).map (fun s => (HandSHeadRun.looksF r.prog (PySem.W.boot_heap w.params) s.abs, HandSHeadRun.seenQ q loose (importedModules r.prog.main.body) (fun s => PySem.W.xlAt q [] s && PySem.W.recOk r.toRowW.records s) s.abs)) = some (true, PySem.W.openGood q loose))
    (h2 : ∀ os, (HandSHeadRun.endF (HandSHeadRun.stepQ (HandSHeadRun.denQ HandSHeadRun.tabQ) r.prog w) M r.prog w os).map ob = some (H.val w)) : HandSHeadRun.RunEq r q H ob M loose w := fun os => by
  have a := h1 os
  have b := h2 os
  cases e : HandSHeadRun.endF (HandSHeadRun.stepQ (HandSHeadRun.denQ HandSHeadRun.tabQ) r.prog w) M r.prog w os with
  | none => rw [e] at a; cases a
  | some s =>
    rw [e] at a b
    have a2 := Option.some.inj a
    have b2 := Option.some.inj b
    show some _ = some _
    rw [← b2]
    obtain ⟨a3, a4⟩ := Prod.mk.inj a2
    exact congrArg some (Prod.ext a3 (Prod.ext a4 rfl))
end Dl
set_option Elab.async false
set_option linter.all false
set_option maxRecDepth 100000
set_option maxHeartbeats 0
set_option pp.maxSteps 60
namespace Hd
open PySem PySem.Spec PyProof.Rows L2 Dl
def topR (i : Nat) : Stmt := PySem.Challenge.pw_leasefiles_k18_sheets_and_notes_judged.main.body.getD i (.Pass ⟨0, 0, 0, 0⟩)
def fx : List Fx := [.df "law",
  .df "_law_pot",
  .df "_law_is",
  .df "bare_sheet",
  .df "_law_sheet",
  .df "_law_any",
  .df "_law_draw",
  .df "_law_name",
  .df "_law_base",
  .df "_law_edit",
  .df "_law_text",
  .df "_law_signs",
  .df "_law_note",
  .df "_law_flag",
  .df "is_sheet",
  .df "is_tuple_of",
  .df "is_count",
  .df "is_integer",
  .df "are_rows",
  .df "are_all",
  .df "is_number",
  .df "is_name",
  .df "is_base",
  .df "is_edit",
  .df "is_stamp",
  .df "is_client",
  .df "is_between",
  .df "is_text",
  .df "has_word",
  .df "are_ascending",
  .df "is_note",
  .df "_law_word",
  .df "noted_behind",
  .df "check_sheet",
  .df "raw_noted",
  .df "_law_behind",
  .df "_law_bent",
  .df "_law_deep",
  .df "_law_is_sheet",
  .df "_law_is_int",
  .df "_law_is_name",
  .df "_law_is_base",
  .df "_law_is_edit",
  .df "_law_is_text",
  .df "_law_is_client",
  .df "_law_is_note",
  .fa (.glo "BARE_SHEET"),
  .fa (.int "BOOT" (0)),
  .fa (.int "NUMBER" (1)),
  .fa (.int "PENDING" (2)),
  .fa (.int "MOST_IN_NAME" (8)),
  .fa (.str "SIGNS" "abcdefghijklmnopqrstuvwxyz"),
  .fa (.glo "FIRST_STAMP"),
  .fa (.int "MOST_CLIENTS" (9)),
  .fa (.glo "EDITS"),
  .fa (.int "MOST_IN_TEXT" (96)),
  .fa (.glo "NOTES"),
  .tp (fun K => (He.ga K "BARE_SHEET")) [.int (0), .int (0), .adr (fun K => (itA K (He.ga K "BARE_SHEET") 2))],
  .tp (fun K => (He.ga K "FIRST_STAMP")) [.int (0), .int (0), .int (0)],
  .tp (fun K => (itA K (He.ga K "BARE_SHEET") 2)) [],
  .va "EDITS" "put",
  .tp (fun K => (dvA K (He.ga K "EDITS") "put")) [.glo "is_text"],
  .va "EDITS" "splice",
  .tp (fun K => (dvA K (He.ga K "EDITS") "splice")) [.glo "is_count", .glo "is_count", .glo "is_text"],
  .va "EDITS" "remove",
  .tp (fun K => (dvA K (He.ga K "EDITS") "remove")) [],
  .va "EDITS" "take",
  .tp (fun K => (dvA K (He.ga K "EDITS") "take")) [.glo "is_name"],
  .va "EDITS" "adopt",
  .tp (fun K => (dvA K (He.ga K "EDITS") "adopt")) [.glo "is_client", .glo "is_number"],
  .va "EDITS" "drop",
  .tp (fun K => (dvA K (He.ga K "EDITS") "drop")) [.glo "is_client", .glo "is_number"],
  .va "NOTES" "boot",
  .tp (fun K => (dvA K (He.ga K "NOTES") "boot")) [],
  .va "NOTES" "write",
  .tp (fun K => (dvA K (He.ga K "NOTES") "write")) [.glo "is_name", .glo "is_base", .glo "is_edit"],
  .va "NOTES" "settled",
  .tp (fun K => (dvA K (He.ga K "NOTES") "settled")) [.glo "is_number"],
  .va "NOTES" "stand",
  .tp (fun K => (dvA K (He.ga K "NOTES") "stand")) [.glo "is_sheet"],
  .ex "LeaseError",
  .ex "NoSheet",
  .ex "NoNote",
  .ef "LeaseError" "NoSheet",
  .ef "LeaseError" "NoNote",
  .en "NoSheet" "NoNote",
  .en "NoNote" "NoSheet",
  .fa (.free "isinstance"),
  .fa (.free "len"),
  .fa (.free "all"),
  .fa (.free "range"),
  .fa (.free "zip"),
  .fa (.free "int"),
  .fa (.free "str"),
  .fa (.free "bool"),
  .fa (.free "tuple"),
  .fa (.free "list"),
  .fa (.free "abs"),
  .fa (.free "max"),
  .fa (.free "enumerate"),
  .fa (.free "sorted"),
  .fa (.free "sum"),
  .fa (.free "min"),
  .fa (.free "any"),
  .fa (.free "repr"),
  .fa (.free "ord"),
  .fa (.free "dict"),
  .fa (.free "set"),
  .fa (.free "ValueError")]
def fn : List He.FnD := [fnT "law" (topR 76),
  fnT "_law_pot" (topR 47),
  fnT "_law_is" (topR 51),
  fnT "bare_sheet" (topR 39),
  fnT "_law_sheet" (topR 70),
  fnT "_law_any" (topR 49),
  fnT "_law_draw" (topR 48),
  fnT "_law_name" (topR 54),
  fnT "_law_base" (topR 69),
  fnT "_law_edit" (topR 68),
  fnT "_law_text" (topR 53),
  fnT "_law_signs" (topR 52),
  fnT "_law_note" (topR 71),
  fnT "_law_flag" (topR 74),
  fnT "is_sheet" (topR 40),
  fnT "is_tuple_of" (topR 8),
  fnT "is_count" (topR 7),
  fnT "is_integer" (topR 5),
  fnT "are_rows" (topR 33),
  fnT "are_all" (topR 29),
  fnT "is_number" (topR 25),
  fnT "is_name" (topR 23),
  fnT "is_base" (topR 27),
  fnT "is_edit" (topR 31),
  fnT "is_stamp" (topR 26),
  fnT "is_client" (topR 22),
  fnT "is_between" (topR 6),
  fnT "is_text" (topR 24),
  fnT "has_word" (topR 30),
  fnT "are_ascending" (topR 9),
  fnT "is_note" (topR 43),
  fnT "_law_word" (topR 75),
  fnT "noted_behind" (topR 45),
  fnT "check_sheet" (topR 41),
  fnT "raw_noted" (topR 44),
  fnT "_law_behind" (topR 72),
  fnT "_law_bent" (topR 73),
  fnT "_law_deep" (topR 59),
  fnT "_law_is_sheet" (topR 66),
  fnT "_law_is_int" (topR 60),
  fnT "_law_is_name" (topR 61),
  fnT "_law_is_base" (topR 64),
  fnT "_law_is_edit" (topR 65),
  fnT "_law_is_text" (topR 62),
  fnT "_law_is_client" (topR 63),
  fnT "_law_is_note" (topR 67)]
def ts : List (Str × List Str) := [("EDITS", ["put", "splice", "remove", "take", "adopt", "drop"]),
  ("NOTES", ["boot", "write", "settled", "stand"])]
def names0 : List Str := ["LeaseError", "NoSheet", "NoNote", "is_integer", "is_between", "is_count", "is_tuple_of", "are_ascending", "MOST_CLIENTS", "MOST_IN_NAME", "MOST_IN_TEXT", "SIGNS", "FIRST_STAMP", "PUT", "SPLICE", "REMOVE", "TAKE", "ADOPT", "DROP", "is_client", "is_name", "is_text", "is_number", "is_stamp", "is_base", "EDITS", "are_all", "has_word", "is_edit", "are_rows"]
def names1 : List Str := ["BOOT", "NUMBER", "PENDING", "BARE_SHEET", "bare_sheet", "is_sheet", "check_sheet", "NOTES", "is_note", "raw_noted", "noted_behind", "_law_pot", "_law_draw", "_law_any", "_law_mixed", "_law_is", "_law_signs", "_law_text", "_law_name", "_law_can", "_law_made", "_law_plain", "_law_names_of", "_law_deep", "_law_is_int", "_law_is_name", "_law_is_text", "_law_is_client", "_law_is_base", "_law_is_edit"]
def names2 : List Str := ["_law_is_sheet", "_law_is_note", "_law_edit", "_law_base", "_law_sheet", "_law_note", "_law_behind", "_law_bent", "_law_flag", "_law_word"]
def names : List Str := names0 ++ names1 ++ names2
abbrev R : PySem.W.OpenRow := PySem.W.OpenLaw.row PySem.Challenge.rw_leasefiles_k18_sheets_and_notes_judged
abbrev qv : Program := PySem.W.view R.prog [76]
abbrev hk : PySem.W.Hook := hookH fx fn ts
def ob (s : PySem.W.SharedT) : AlH := obsHG fx fn ts (HandSHeadRun.getT s)
theorem ob_eq (s : PySem.W.SharedT) : ob s = hk.obs s.abs := obH_eq s
theorem seenA (w : World) (os : OsState) : (HandSHeadRun.endF (HandSHeadRun.stepQ (HandSHeadRun.denQ HandSHeadRun.tabQ) R.prog (w.withFollow "special-get-raises" false)) 20000 R.prog (w.withFollow "special-get-raises" false) os).map (fun s => (HandSHeadRun.looksF R.prog (PySem.W.boot_heap (w.withFollow "special-get-raises" false).params) s.abs, HandSHeadRun.seenQ qv names (importedModules R.prog.main.body) (fun s => PySem.W.xlAt qv [] s && PySem.W.recOk R.toRowW.records s) s.abs)) = some (true, PySem.W.openGood qv names) := by
  kernel_rfl
theorem toldA (w : World) (os : OsState) : (HandSHeadRun.endF (HandSHeadRun.stepQ (HandSHeadRun.denQ HandSHeadRun.tabQ) R.prog (w.withFollow "special-get-raises" false)) 20000 R.prog (w.withFollow "special-get-raises" false) os).map ob = some (hk.val (w.withFollow "special-get-raises" false)) := by
  kernel_rfl
theorem seenB (w : World) (os : OsState) : (HandSHeadRun.endF (HandSHeadRun.stepQ (HandSHeadRun.denQ HandSHeadRun.tabQ) R.prog (w.withFollow "special-get-raises" true)) 20000 R.prog (w.withFollow "special-get-raises" true) os).map (fun s => (HandSHeadRun.looksF R.prog (PySem.W.boot_heap (w.withFollow "special-get-raises" true).params) s.abs, HandSHeadRun.seenQ qv names (importedModules R.prog.main.body) (fun s => PySem.W.xlAt qv [] s && PySem.W.recOk R.toRowW.records s) s.abs)) = some (true, PySem.W.openGood qv names) := by
  kernel_rfl
theorem toldB (w : World) (os : OsState) : (HandSHeadRun.endF (HandSHeadRun.stepQ (HandSHeadRun.denQ HandSHeadRun.tabQ) R.prog (w.withFollow "special-get-raises" true)) 20000 R.prog (w.withFollow "special-get-raises" true) os).map ob = some (hk.val (w.withFollow "special-get-raises" true)) := by
  kernel_rfl
theorem run (w : World) : HandSHeadRun.RunEq R qv hk ob 20000 names w := PySem.W.byRow2 (P := fun w => HandSHeadRun.RunEq R qv hk ob 20000 names w) "special-get-raises" (fun w => run_two (seenA w) (toldA w)) (fun w => run_two (seenB w) (toldB w)) w
end Hd
section
open PySem PySem.W PyProof.Rows
theorem Hd.top (call : WalkO Hd.qv Hd.names (XL Hd.qv []) Hd.hk.says Hd.R.toRowW (HandSHeadRun.topDef Hd.R.prog 76) [] fun f vs => PySem.call f vs) : PySem.Challenge.rw_leasefiles_k18_sheets_and_notes_judged.Holds := by
  w_on; o_law
  refine HandSHeadRun.head_any (r := OpenLaw.row PySem.Challenge.rw_leasefiles_k18_sheets_and_notes_judged) (q := view (OpenLaw.row PySem.Challenge.rw_leasefiles_k18_sheets_and_notes_judged).prog [76]) (H := Hd.hk) (ob := Hd.ob) (M := 20000) (loose := Hd.names) (d := HandSHeadRun.topDef (OpenLaw.row PySem.Challenge.rw_leasefiles_k18_sheets_and_notes_judged).prog 76) (kwd := []) Hd.ob_eq (by kernel_rfl) (fun s => by kernel_rfl) Hd.run (by kernel_rfl) (by kernel_rfl) (by kernel_rfl) (by rfl) (by first | assumption | decide +kernel) (by decide +kernel) ⟨rfl, rfl, rfl, rfl, rfl, by decide +kernel⟩ ?hw call
  case hw => w_witness2
end
set_option Elab.async false
set_option linter.all false
set_option maxRecDepth 100000
set_option maxHeartbeats 4000000
namespace Dl
open PySem PySem.Spec PyProof.Rows L2
/-- a value as it is told: data, or a raw value (a def, a class, a mutable object) -/
inductive EV where
  | d (x : PyData)
  | r (v : V)
  | rl (vs : List V)
  | rL (vs : List V)
  | kt (ks : List Key)
  | kl (kss : List (List Key))
def kd : Key → PyData
  | .inl i => .int i
  | .inr x => .str x
mutual
inductive Dp (K : PySem.W.Frag) (H : Hp) : V → PyData → Prop
  | non : Dp K H .non .none
  | bl (b : Bool) : Dp K H (.bl b) (.bool b)
  | int (i : Int) : Dp K H (.int i) (.int i)
  | str (x : Str) : Dp K H (.str x) (.str x)
  | lst {a : Addr} {xs : List V} {ds : List PyData} : SqL K H a xs → DpAll K H xs ds → Dp K H (.ref a) (.list ds)
  | tup {a : Addr} {xs : List V} {ds : List PyData} : SqT K H a xs → DpAll K H xs ds → Dp K H (.ref a) (.tuple ds)
  | dct {a : Addr} {es : List (Key × V)} {kvs : List (PyData × PyData)} : H a = some (.dK es) → kvs.map (·.1) = es.map (kd ·.1) → DpAll K H (es.map (·.2)) (kvs.map (·.2)) → Dp K H (.ref a) (.dict kvs)
inductive DpAll (K : PySem.W.Frag) (H : Hp) : List V → List PyData → Prop
  | nil : DpAll K H [] []
  | cons {v : V} {vs : List V} {d : PyData} {ds : List PyData} : Dp K H v d → DpAll K H vs ds → DpAll K H (v :: vs) (d :: ds)
end
mutual
/-- no dict within -/
def noD : PyData → Bool
  | .list xs => noDAll xs
  | .tuple xs => noDAll xs
  | .dict _ => false
  | _ => true
def noDAll : List PyData → Bool
  | [] => true
  | x :: xs => noD x && noDAll xs
end
mutual
theorem Dp.kit {K : PySem.W.Frag} {H : Hp} : ∀ {d : PyData} {v : V}, noD d = true → Dp K H v d → L2.Dp K H v d
  | .none, _, _, h => by cases h; exact .non
  | .bool b, _, _, h => by cases h; exact .bl b
  | .int i, _, _, h => by cases h; exact .int i
  | .str x, _, _, h => by cases h; exact .str x
  | .list ds, _, p, h => by
    rw [noD] at p
    cases h with
    | lst h1 h2 => exact .lst h1 (DpAll.kit p h2)
  | .tuple ds, _, p, h => by
    rw [noD] at p
    cases h with
    | tup h1 h2 => exact .tup h1 (DpAll.kit p h2)
  | .dict _, _, p, h => by rw [noD] at p; cases p
theorem DpAll.kit {K : PySem.W.Frag} {H : Hp} : ∀ {ds : List PyData} {vs : List V}, noDAll ds = true → DpAll K H vs ds → L2.DpAll K H vs ds
  | [], _, _, h => by cases h; exact .nil
  | d :: ds, _, p, h => by
    rw [noDAll, Bool.and_eq_true] at p
    cases h with
    | cons h1 h2 => exact .cons (Dp.kit p.1 h1) (DpAll.kit p.2 h2)
end
theorem noDAll_mem : ∀ {xs : List PyData} {x : PyData}, noDAll xs = true → x ∈ xs → noD x = true
  | [], _, _, h => by cases h
  | y :: ys, x, h, m => by
    rw [noDAll, Bool.and_eq_true] at h
    rcases List.mem_cons.mp m with e | m
    · rw [e]; exact h.1
    · exact noDAll_mem h.2 m
theorem noDAll_of : ∀ {xs : List PyData}, (∀ x ∈ xs, noD x = true) → noDAll xs = true
  | [], _ => by rw [noDAll]
  | y :: ys, h => by
    rw [noDAll, Bool.and_eq_true]
    exact ⟨h y List.mem_cons_self, noDAll_of fun x m => h x (List.mem_cons_of_mem _ m)⟩
theorem noD_tup {xs : List PyData} : noD (.tuple xs) = true ↔ ∀ x ∈ xs, noD x = true := by
  rw [noD]; exact ⟨fun h x m => noDAll_mem h m, noDAll_of⟩
theorem noD_lst {xs : List PyData} : noD (.list xs) = true ↔ ∀ x ∈ xs, noD x = true := by
  rw [noD]; exact ⟨fun h x m => noDAll_mem h m, noDAll_of⟩
theorem Dp.reads {X : Cx} {pins : List (Addr × Obj)} {σ : L2.St} {H : Hp} {s : Shared} (I : Inv X pins σ H s) (d : PyData) (v : V) (u : Value) (p : noD d = true) (h : Dp X.K H v d) (r : RelV v u) : ∃ as, Reads s.heap u d as := L2.Dp.reads I d v u (h.kit p) r
theorem Dp.readsAll {X : Cx} {pins : List (Addr × Obj)} {σ : L2.St} {H : Hp} {s : Shared} (I : Inv X pins σ H s) (ds : List PyData) (vs : List V) (us : List Value) (p : noDAll ds = true) (h : DpAll X.K H vs ds) (r : Vals vs us) : ∃ as, ReadsAll s.heap us ds as := L2.Dp.readsAll I ds vs us (h.kit p) r
def Ex (H H' : Hp) : Prop := ∀ a o, H a = some o → H' a = some o
theorem Ex.refl (H : Hp) : Ex H H := fun _ _ h => h
theorem Ex.trans {H H1 H2 : Hp} (a : Ex H H1) (b : Ex H1 H2) : Ex H H2 := fun x o h => b x o (a x o h)
theorem Ex.new {H : Hp} {p : Addr} {o : HO} (h : H p = none) : Ex H (upd H p o) := fun a u e => by
  rw [upd_ne (ne_of_none e h)]; exact e
theorem Ex.seqL {K : PySem.W.Frag} {H H' : Hp} {a : Addr} {xs : List V} (e : Ex H H') (h : SqL K H a xs) : SqL K H' a xs := Same.seq e h
theorem Ex.seqT {K : PySem.W.Frag} {H H' : Hp} {a : Addr} {xs : List V} (e : Ex H H') (h : SqT K H a xs) : SqT K H' a xs := by
  rcases h with (h | ⟨o, h⟩) | h
  · exact .inl (.inl (e _ _ h))
  · exact .inl (.inr ⟨o, e _ _ h⟩)
  · exact .inr h
mutual
theorem dp_monoR {K : PySem.W.Frag} {H H' : Hp} (e : Ex H H') {d : PyData} {v : V} : Dp K H v d → Dp K H' v d
  | .non => .non
  | .bl b => .bl b
  | .int i => .int i
  | .str x => .str x
  | .lst h1 h2 => .lst (e.seqL h1) (dpAll_monoR e h2)
  | .tup h1 h2 => .tup (e.seqT h1) (dpAll_monoR e h2)
  | .dct h1 h2 h3 => .dct (e _ _ h1) h2 (dpAll_monoR e h3)
theorem dpAll_monoR {K : PySem.W.Frag} {H H' : Hp} (e : Ex H H') {ds : List PyData} {vs : List V} : DpAll K H vs ds → DpAll K H' vs ds
  | .nil => .nil
  | .cons h1 h2 => .cons (dp_monoR e h1) (dpAll_monoR e h2)
end
theorem dp_mono {K : PySem.W.Frag} {H H' : Hp} (e : Ex H H') (d : PyData) (v : V) (h : Dp K H v d) : Dp K H' v d := dp_monoR e h
theorem dpAll_mono {K : PySem.W.Frag} {H H' : Hp} (e : Ex H H') (ds : List PyData) (vs : List V) (h : DpAll K H vs ds) : DpAll K H' vs ds := dpAll_monoR e h
theorem dpAll_len {K : PySem.W.Frag} {H : Hp} : ∀ {ds : List PyData} {vs : List V}, DpAll K H vs ds → vs.length = ds.length
  | [], _, h => by cases h; rfl
  | d :: ds, _, h => by
    cases h with
    | cons _ h2 => simp [dpAll_len h2]
theorem dpAll_get {K : PySem.W.Frag} {H : Hp} : ∀ {ds : List PyData} {vs : List V} {i : Nat} {d : PyData}, DpAll K H vs ds → ds[i]? = some d → ∃ v, vs[i]? = some v ∧ Dp K H v d
  | [], _, _, _, h, e => by simp at e
  | d :: ds, _, 0, _, h, e => by
    cases h with
    | cons h1 h2 => simp at e; subst e; exact ⟨_, rfl, h1⟩
  | d :: ds, _, i + 1, _, h, e => by
    cases h with
    | cons h1 h2 =>
      obtain ⟨v, e1, e2⟩ := dpAll_get (i := i) h2 (by simpa using e)
      exact ⟨v, by simpa using e1, e2⟩
theorem dpAll_append {K : PySem.W.Frag} {H : Hp} : ∀ {ds es : List PyData} {vs ws : List V}, DpAll K H vs ds → DpAll K H ws es → DpAll K H (vs ++ ws) (ds ++ es)
  | [], _, _, _, h, k => by cases h; exact k
  | d :: ds, _, _, _, h, k => by
    cases h with
    | cons h1 h2 => exact .cons h1 (dpAll_append h2 k)
theorem dpAll_take {K : PySem.W.Frag} {H : Hp} : ∀ (n : Nat) {ds : List PyData} {vs : List V}, DpAll K H vs ds → DpAll K H (vs.take n) (ds.take n)
  | 0, _, _, _ => by simpa using DpAll.nil
  | n + 1, [], _, h => by cases h; exact .nil
  | n + 1, d :: ds, _, h => by
    cases h with
    | cons h1 h2 => exact .cons h1 (dpAll_take n h2)
theorem dpAll_drop {K : PySem.W.Frag} {H : Hp} : ∀ (n : Nat) {ds : List PyData} {vs : List V}, DpAll K H vs ds → DpAll K H (vs.drop n) (ds.drop n)
  | 0, _, _, h => h
  | n + 1, [], _, h => by cases h; exact .nil
  | n + 1, d :: ds, _, h => by
    cases h with
    | cons h1 h2 => exact dpAll_drop n h2
theorem dpAll_bls {K : PySem.W.Frag} {H : Hp} : ∀ {bs : List Bool} {vs : List V}, DpAll K H vs (bs.map .bool) → vs = bs.map V.bl
  | [], _, h => by cases h; rfl
  | b :: bs, _, h => by
    cases h with
    | cons h1 h2 => cases h1; rw [dpAll_bls h2]; rfl
theorem dpAll_strs {K : PySem.W.Frag} {H : Hp} : ∀ {ns : List Str} {vs : List V}, DpAll K H vs (ns.map .str) → vs = ns.map V.str
  | [], _, h => by cases h; rfl
  | b :: bs, _, h => by
    cases h with
    | cons h1 h2 => cases h1; rw [dpAll_strs h2]; rfl
theorem dpAll_ofInts {K : PySem.W.Frag} {H : Hp} : ∀ (ns : List Int), DpAll K H (ns.map V.int) (ns.map .int)
  | [] => .nil
  | n :: ns => .cons (.int n) (dpAll_ofInts ns)
theorem pairedKt_mono {I I' : Hp} (x : Ex I I') : ∀ {bs : List Addr} {kss : List (List Key)}, Paired (fun b ks => I b = some (.tup (ks.map kV))) bs kss → Paired (fun b ks => I' b = some (.tup (ks.map kV))) bs kss
  | _, _, .nil => .nil
  | _, _, .cons h t => .cons (x _ _ h) (pairedKt_mono x t)
def RelE (K : PySem.W.Frag) (I : Hp) (v : V) : EV → Prop
  | .d x => Dp K I v x
  | .r w => v = w
  | .rl vs => ∃ a, v = .ref a ∧ (SqL K I a vs ∨ SqT K I a vs)
  | .rL vs => ∃ a, v = .ref a ∧ SqL K I a vs
  | .kt ks => ∃ b, v = .ref b ∧ I b = some (.tup (ks.map kV))
  | .kl kss => ∃ (a : Addr) (bs : List Addr), v = .ref a ∧ SqL K I a (bs.map V.ref) ∧ Paired (fun b ks => I b = some (.tup (ks.map kV))) bs kss
theorem RelE.mono {K : PySem.W.Frag} {I I' : Hp} {v : V} {e : EV} (x : Ex I I') (h : RelE K I v e) : RelE K I' v e := by
  cases e with
  | d d => exact dp_mono x d v h
  | r w => exact h
  | rl vs => exact let ⟨a, e, q⟩ := h; ⟨a, e, q.imp x.seqL x.seqT⟩
  | rL vs => exact let ⟨a, e, q⟩ := h; ⟨a, e, x.seqL q⟩
  | kt ks => exact let ⟨b, e, q⟩ := h; ⟨b, e, x _ _ q⟩
  | kl kss => exact let ⟨a, bs, e, q, t⟩ := h; ⟨a, bs, e, x.seqL q, pairedKt_mono x t⟩
/-- a context: the written part, the ghost state, which addresses are mutable in it, what holds of them -/
structure Ctx where
  K : PySem.W.Frag
  S : Type
  M : S → Addr → Prop
  J : S → Hp → Hp → Prop
  jm : ∀ g I I' H H', J g I H → Ex I I' → (∀ a, M g a → H' a = H a) → J g I' H'
  mh : ∀ g I H a, J g I H → M g a → H a ≠ none
structure Ok (c : Ctx) (I H : Hp) (g : c.S) : Prop where
  ex : Ex I H
  j : c.J g I H
  out : ∀ a, c.M g a → I a = none
def isTupO : HO → Bool | .tup _ => true | _ => false
structure Step (c : Ctx) (I H : Hp) (g : c.S) (I' H' : Hp) (g' : c.S) : Prop where
  im : Ex I I'
  keep : ∀ a o, H a = some o → ¬ c.M g a → H' a = some o
  out : ∀ a o, H a = some o → isTupO o = false → I a = none → ¬ c.M g a → I' a = none
  mm : ∀ a, c.M g' a → c.M g a ∨ H a = none
  there : ∀ a, H a ≠ none → H' a ≠ none
section
variable {c : Ctx} {I H I1 H1 I2 H2 : Hp} {g g1 g2 : c.S}
theorem Step.refl : Step c I H g I H g := ⟨Ex.refl _, fun _ _ h _ => h, fun _ _ _ _ h _ => h, fun _ h => .inl h, fun _ h => h⟩
theorem Step.trans (a : Step c I H g I1 H1 g1) (b : Step c I1 H1 g1 I2 H2 g2) : Step c I H g I2 H2 g2 where
  im := a.im.trans b.im
  keep := fun x o h n => b.keep x o (a.keep x o h n) fun m => by
    rcases a.mm x m with q | q
    · exact n q
    · rw [q] at h; cases h
  out := fun x o h t n m => b.out x o (a.keep x o h m) t (a.out x o h t n m) fun m1 => (a.mm x m1).elim m fun e => by rw [h] at e; cases e
  mm := fun x m => by
    rcases b.mm x m with q | q
    · exact a.mm x q
    · refine .inr ?_
      cases e : H x with
      | none => rfl
      | some o => exact absurd q (a.there x (by rw [e]; simp))
  there := fun x h => b.there x (a.there x h)
/-- the heap has grown by an object that is not told as data -/
theorem Ok.grow (k : Ok c I H g) {p : Addr} {o : HO} (hp : H p = none) : Ok c I (upd H p o) g :=
  ⟨k.ex.trans (Ex.new hp), c.jm g I I H _ k.j (Ex.refl I) fun a m => upd_ne (fun e => c.mh g I H a k.j m (by rw [e]; exact hp)), k.out⟩
theorem Step.grow {p : Addr} {o : HO} (hp : H p = none) : Step c I H g I (upd H p o) g :=
  ⟨Ex.refl _, fun a u h _ => by rw [upd_ne (ne_of_none h hp)]; exact h, fun _ _ _ _ h _ => h, fun _ h => .inl h, fun a h => by
    by_cases e : a = p
    · exact absurd hp (by rw [← e]; exact h)
    · rw [upd_ne e]; exact h⟩
/-- the immutable part takes in a new object -/
theorem Ok.new (k : Ok c I H g) {p : Addr} {o : HO} (hp : H p = none) : Ok c (upd I p o) (upd H p o) g :=
  ⟨fun a u e => by
    by_cases z : a = p
    · rw [z, upd_same] at e ⊢; exact e
    · rw [upd_ne z] at e ⊢; exact k.ex a u e, c.jm g I _ H _ k.j (Ex.new (by
    cases e : I p with
    | none => rfl
    | some o => rw [k.ex p o e] at hp; cases hp)) fun a m => upd_ne (fun e => c.mh g I H a k.j m (by rw [e]; exact hp)), fun a m => by
    have ne : a ≠ p := fun e => c.mh g I H a k.j m (by rw [e]; exact hp)
    rw [upd_ne ne]; exact k.out a m⟩
theorem Ok.free (k : Ok c I H g) {p : Addr} (hp : H p = none) : I p = none := by
  cases e : I p with
  | none => rfl
  | some o => rw [k.ex p o e] at hp; cases hp
theorem Step.new (k : Ok c I H g) {p : Addr} {o : HO} (hp : H p = none) : Step c I H g (upd I p o) (upd H p o) g :=
  ⟨Ex.new (k.free hp), (Step.grow (c := c) (I := I) (g := g) hp).keep, fun a o h _ n _ => by
    have ne : a ≠ p := fun e => by rw [e, hp] at h; cases h
    rw [upd_ne ne]; exact n, fun _ h => .inl h, (Step.grow (c := c) (o := o) (I := I) (g := g) hp).there⟩
/-- an object that stands already and is not mutable here comes to the immutable part -/
theorem dp_of (k : Ok c I H g) {d : PyData} {v : V} (h : Dp c.K I v d) : Dp c.K H v d := dp_mono k.ex d v h
end
/-- the slots as they are told -/
abbrev Rho := List (Option EV)
def EnvOk (K : PySem.W.Frag) (I : Hp) (σ : L2.St) (ρ : Rho) : Prop := σ.length = ρ.length ∧ ∀ (i : Nat) (e : EV), ρ[i]? = some (some e) → ∃ v, σ[i]? = some (some v) ∧ RelE K I v e
theorem EnvOk.mono {K : PySem.W.Frag} {I I' : Hp} {σ : L2.St} {ρ : Rho} (x : Ex I I') (h : EnvOk K I σ ρ) : EnvOk K I' σ ρ :=
  ⟨h.1, fun i e q => let ⟨v, a, b⟩ := h.2 i e q; ⟨v, a, b.mono x⟩⟩
theorem EnvOk.set {K : PySem.W.Frag} {I : Hp} {σ : L2.St} {ρ : Rho} (h : EnvOk K I σ ρ) (i : Nat) {v : V} {e : EV} (r : RelE K I v e) : EnvOk K I (σ.set i (some v)) (ρ.set i (some e)) := by
  refine ⟨by simp [h.1], fun j f q => ?_⟩
  by_cases z : i = j
  · subst z
    have hl : i < ρ.length := by
      have := (List.getElem?_eq_some_iff.mp q).1
      simpa using this
    rw [List.getElem?_set_self hl] at q
    cases q
    exact ⟨v, by rw [List.getElem?_set_self (by rw [h.1]; exact hl)], r⟩
  · rw [List.getElem?_set_ne z] at q ⊢
    exact h.2 j f q
theorem EnvOk.wipe {K : PySem.W.Frag} {I : Hp} {σ : L2.St} {ρ : Rho} : ∀ (vs : List Nat), EnvOk K I σ ρ → EnvOk K I (wipe σ vs) (vs.foldr (fun i r => r.set i none) ρ) := by
  intro vs
  induction vs with
  | nil => exact id
  | cons i vs ih =>
    intro h
    have q := ih h
    refine ⟨by rw [wipe_length]; simp only [List.foldr_cons, List.length_set]; rw [← q.1, wipe_length], fun j f e => ?_⟩
    simp only [List.foldr_cons] at e
    by_cases z : i = j
    · subst z
      have hl : i < (vs.foldr (fun i r => r.set i none) ρ).length := by
        have := (List.getElem?_eq_some_iff.mp e).1
        simpa using this
      rw [List.getElem?_set_self hl] at e
      cases e
    · rw [List.getElem?_set_ne z] at e
      unfold L2.wipe
      rw [List.getElem?_set_ne z]
      exact q.2 j f e
def wipeR (ρ : Rho) (vs : List Nat) : Rho := vs.foldr (fun i r => r.set i none) ρ
section
variable (c : Ctx)
/-- the end of an expression -/
def End (I H : Hp) (g : c.S) (P : EV → c.S → Prop) (Q : VK) : Prop := ∀ v I' H' g' e, Step c I H g I' H' g' → Ok c I' H' g' → RelE c.K I' v e → P e g' → Q v H'
def PV (te : TE) (ρ : Rho) (g : c.S) (P : EV → c.S → Prop) : Prop := ∀ σ I H, Ok c I H g → EnvOk c.K I σ ρ → ∀ Q : VK, End c I H g P Q → te σ H Q
def PB (t : TT) (ρ : Rho) (g : c.S) (P : Bool → c.S → Prop) : Prop := ∀ σ I H, Ok c I H g → EnvOk c.K I σ ρ → ∀ Q : Bool → Hp → Prop, (∀ b I' H' g', Step c I H g I' H' g' → Ok c I' H' g' → P b g' → Q b H') → t σ H Q
def PAs (t : TA) (ρ : Rho) (g : c.S) (P : List EV → c.S → Prop) : Prop := ∀ σ I H, Ok c I H g → EnvOk c.K I σ ρ → ∀ Q : List V → Hp → Prop, (∀ vs I' H' g' es, Step c I H g I' H' g' → Ok c I' H' g' → Paired (RelE c.K I') vs es → P es g' → Q vs H') → t σ H Q
def PPart (t : TO) (ρ : Rho) (g : c.S) (P : Option Int → c.S → Prop) : Prop := ∀ σ I H, Ok c I H g → EnvOk c.K I σ ρ → ∀ Q : Option Int → Hp → Prop, (∀ o I' H' g', Step c I H g I' H' g' → Ok c I' H' g' → P o g' → Q o H') → t σ H Q
/-- an operation on two told values -/
def O2 (r : R2) (x y : EV) (g : c.S) (P : EV → c.S → Prop) : Prop := ∀ I H xv yv, Ok c I H g → RelE c.K I xv x → RelE c.K I yv y → ∀ Q : VK, End c I H g P Q → r xv yv H Q
def O1 (r : V → Hp → VK → Prop) (x : EV) (g : c.S) (P : EV → c.S → Prop) : Prop := ∀ I H xv, Ok c I H g → RelE c.K I xv x → ∀ Q : VK, End c I H g P Q → r xv H Q
def OC (r : List V → Hp → VK → Prop) (es : List EV) (g : c.S) (P : EV → c.S → Prop) : Prop := ∀ I H vs, Ok c I H g → Paired (RelE c.K I) vs es → ∀ Q : VK, End c I H g P Q → r vs H Q
def OSl (r : V → Option Int → Option Int → Hp → VK → Prop) (x : EV) (lo hi : Option Int) (g : c.S) (P : EV → c.S → Prop) : Prop := ∀ I H xv, Ok c I H g → RelE c.K I xv x → ∀ Q : VK, End c I H g P Q → r xv lo hi H Q
end
section
variable {c : Ctx} {ρ : Rho} {g : c.S} {P P' : EV → c.S → Prop} {te ta tb tc : TE} {t u : TT} {I H : Hp} {Q : VK}
theorem Paired.relMono {K : PySem.W.Frag} {I I' : Hp} (x : Ex I I') : ∀ {vs : List V} {es : List EV}, Paired (RelE K I) vs es → Paired (RelE K I') vs es
  | _, _, .nil => .nil
  | _, _, .cons h t => .cons (h.mono x) (Paired.relMono x t)
theorem End.here (k : End c I H g P Q) (ok : Ok c I H g) {v : V} {e : EV} (r : RelE c.K I v e) (p : P e g) : Q v H := k v I H g e Step.refl ok r p
theorem End.step {I' H' : Hp} {g' : c.S} (k : End c I H g P Q) (s : Step c I H g I' H' g') (h : ∀ e g2, P' e g2 → P e g2) : End c I' H' g' P' Q :=
  fun v I2 H2 g2 e s2 ok r p => k v I2 H2 g2 e (s.trans s2) ok r (h e g2 p)
theorem PV.imp (h : PV c te ρ g P') (i : ∀ e g2, P' e g2 → P e g2) : PV c te ρ g P := fun σ I H ok en Q k => h σ I H ok en Q fun v I' H' g' e s ok' r p => k v I' H' g' e s ok' r (i e g' p)
theorem PB.imp {P P' : Bool → c.S → Prop} (h : PB c t ρ g P') (i : ∀ e g2, P' e g2 → P e g2) : PB c t ρ g P := fun σ I H ok en Q k => h σ I H ok en Q fun v I' H' g' s ok' p => k v I' H' g' s ok' (i v g' p)
theorem pv_var {i : Nat} {e : EV} (h : ρ[i]? = some (some e)) (p : P e g) : PV c (tVar i) ρ g P := fun σ I H ok en Q k => by
  obtain ⟨v, e1, r⟩ := en.2 i e h
  exact ⟨v, e1, k.here ok r p⟩
theorem pv_int {i : Int} (p : P (.d (.int i)) g) : PV c (tC (.int i)) ρ g P := fun σ I H ok en Q k => k.here (e := .d (.int i)) ok (Dp.int i) p
theorem pv_bl {b : Bool} (p : P (.d (.bool b)) g) : PV c (tC (.bl b)) ρ g P := fun σ I H ok en Q k => k.here (e := .d (.bool b)) ok (Dp.bl b) p
theorem pv_non (p : P (.d .none) g) : PV c (tC .non) ρ g P := fun σ I H ok en Q k => k.here (e := .d .none) ok Dp.non p
theorem pv_str {x : Str} (p : P (.d (.str x)) g) : PV c (tC (.str x)) ρ g P := fun σ I H ok en Q k => k.here (e := .d (.str x)) ok (Dp.str x) p
theorem pv_raw {v : V} (p : P (.r v) g) : PV c (tC v) ρ g P := fun σ I H ok en Q k => k.here (e := .r v) ok rfl p
/-- a constant of the module that is data -/
theorem pv_const {v : V} {d : PyData} (h : ∀ I, Dp c.K I v d) (p : P (.d d) g) : PV c (tC v) ρ g P := fun σ I H ok en Q k => k.here (e := .d d) ok (h I) p
theorem pv_op {r : R2} (h : PV c ta ρ g fun x g1 => PV c tb ρ g1 fun y g2 => O2 c r x y g2 P) : PV c (tOp r ta tb) ρ g P := fun σ I H ok en Q k =>
  h σ I H ok en _ fun v I1 H1 g1 x s1 ok1 r1 p1 => p1 σ I1 H1 ok1 (en.mono s1.im) _ fun u I2 H2 g2 y s2 ok2 r2 p2 =>
    p2 I2 H2 v u ok2 (r1.mono s2.im) r2 Q fun z I3 H3 g3 e s3 ok3 r3 p3 => k z I3 H3 g3 e ((s1.trans s2).trans s3) ok3 r3 p3
theorem pv_un {r : V → Hp → VK → Prop} (h : PV c ta ρ g fun x g1 => O1 c r x g1 P) : PV c (tUn r ta) ρ g P := fun σ I H ok en Q k =>
  h σ I H ok en _ fun v I1 H1 g1 x s1 ok1 r1 p1 => p1 I1 H1 v ok1 r1 Q fun z I3 H3 g3 e s3 ok3 r3 p3 => k z I3 H3 g3 e (s1.trans s3) ok3 r3 p3
theorem pas_nil {P : List EV → c.S → Prop} (p : P [] g) : PAs c tNil ρ g P := fun σ I H ok en Q k => k [] I H g [] Step.refl ok .nil p
theorem pas_cons {P : List EV → c.S → Prop} {tr : TA} (h : PV c ta ρ g fun x g1 => PAs c tr ρ g1 fun es g2 => P (x :: es) g2) : PAs c (tCons ta tr) ρ g P := fun σ I H ok en Q k =>
  h σ I H ok en _ fun v I1 H1 g1 x s1 ok1 r1 p1 => p1 σ I1 H1 ok1 (en.mono s1.im) _ fun us I2 H2 g2 es s2 ok2 r2 p2 => k (v :: us) I2 H2 g2 (x :: es) (s1.trans s2) ok2 (.cons (r1.mono s2.im) r2) p2
/-- all told values are data -/
def allD : List EV → Option (List PyData)
  | [] => some []
  | .d x :: r => (allD r).map (x :: ·)
  | .r _ :: _ => none
  | .rl _ :: _ => none
  | .rL _ :: _ => none
  | .kt _ :: _ => none
  | .kl _ :: _ => none
/-- all told values are raw -/
def allR : List EV → Option (List V)
  | [] => some []
  | .r x :: r => (allR r).map (x :: ·)
  | .d _ :: _ => none
  | .rl _ :: _ => none
  | .rL _ :: _ => none
  | .kt _ :: _ => none
  | .kl _ :: _ => none
theorem allR_rel {K : PySem.W.Frag} {I : Hp} : ∀ {es : List EV} {vs ds : List V}, Paired (RelE K I) vs es → allR es = some ds → vs = ds := by
  intro es
  induction es with
  | nil => intro vs ds h e; cases h; cases e; rfl
  | cons x es ih =>
    intro vs ds h e
    cases h with
    | cons h t =>
      cases x with
      | r x =>
        simp only [allR] at e
        cases q : allR es with
        | none => rw [q] at e; cases e
        | some l =>
          rw [q] at e
          cases e
          rw [show _ = x from h, ih t q]
      | d x => simp [allR] at e
      | rl x => simp [allR] at e
      | rL x => simp [allR] at e
      | kt x => simp [allR] at e
      | kl x => simp [allR] at e
theorem allD_rel {K : PySem.W.Frag} {I : Hp} : ∀ {es : List EV} {vs : List V} {ds : List PyData}, Paired (RelE K I) vs es → allD es = some ds → DpAll K I vs ds := by
  intro es
  induction es with
  | nil => intro vs ds h e; cases h; cases e; exact .nil
  | cons x es ih =>
    intro vs ds h e
    cases h with
    | cons h t =>
      cases x with
      | d x =>
        simp only [allD] at e
        cases q : allD es with
        | none => rw [q] at e; cases e
        | some l =>
          rw [q] at e
          cases e
          exact .cons h (ih t q)
      | r x => simp [allD] at e
      | rl x => simp [allD] at e
      | rL x => simp [allD] at e
      | kt x => simp [allD] at e
      | kl x => simp [allD] at e
theorem pv_tup {tl : TA} (h : PAs c tl ρ g fun es g1 => ∃ ds, allD es = some ds ∧ ds.length ≤ sizeLine ∧ P (.d (.tuple ds)) g1) : PV c (tTup tl) ρ g P := fun σ I H ok en Q k =>
  h σ I H ok en _ fun vs I1 H1 g1 es s1 ok1 r1 ⟨ds, e1, hz, p1⟩ => by
    have a := allD_rel r1 e1
    refine ⟨by rw [dpAll_len a]; exact hz, fun p hp => k _ (upd I1 p (.tup vs)) (upd H1 p (.tup vs)) g1 (.d (.tuple ds)) (s1.trans (Step.new ok1 hp)) (ok1.new hp) (.tup (.inl (.inl upd_same)) (dpAll_mono (Ex.new (ok1.free hp)) ds vs a)) p1⟩
theorem pv_lst2 {tl : TA} (h : PAs c tl ρ g fun es g1 => (∃ ds, allD es = some ds ∧ ds.length ≤ sizeLine ∧ P (.d (.list ds)) g1) ∨ ∃ ds, allR es = some ds ∧ ds.length ≤ sizeLine ∧ P (.rl ds) g1) : PV c (tLst tl) ρ g P := fun σ I H ok en Q k =>
  h σ I H ok en _ fun vs I1 H1 g1 es s1 ok1 r1 q => by
    rcases q with ⟨ds, e1, hz, p1⟩ | ⟨ds, e1, hz, p1⟩
    · have a := allD_rel r1 e1
      exact ⟨by rw [dpAll_len a]; exact hz, fun p hp => k _ (upd I1 p (.lst vs)) (upd H1 p (.lst vs)) g1 (.d (.list ds)) (s1.trans (Step.new ok1 hp)) (ok1.new hp) (.lst (.inl (.inl upd_same)) (dpAll_mono (Ex.new (ok1.free hp)) ds vs a)) p1⟩
    · have a := allR_rel r1 e1
      subst a
      exact ⟨hz, fun p hp => k _ (upd I1 p (.lst vs)) (upd H1 p (.lst vs)) g1 (.rl vs) (s1.trans (Step.new ok1 hp)) (ok1.new hp) ⟨p, rfl, .inl (.inl (.inl upd_same))⟩ p1⟩
theorem pb_test' {P : Bool → c.S → Prop} (h : PV c te ρ g fun e g1 => ∃ b, e = .d (.bool b) ∧ P b g1) : PB c (tTest te) ρ g P := fun σ I H ok en Q k =>
  h σ I H ok en _ fun v I1 H1 g1 e s1 ok1 r1 ⟨b, e1, p1⟩ => by
    subst e1
    cases r1
    exact ⟨b, rfl, k b I1 H1 g1 s1 ok1 p1⟩
theorem pb_B {P : Bool → c.S → Prop} (h : PV c te ρ g fun e g1 => ∃ b, e = .d (.bool b) ∧ P b g1) : PB c (tB te) ρ g P := fun σ I H ok en Q k =>
  h σ I H ok en _ fun v I1 H1 g1 e s1 ok1 r1 ⟨b, e1, p1⟩ => by
    subst e1
    cases r1
    exact ⟨b, rfl, k b I1 H1 g1 s1 ok1 p1⟩
theorem pb_not {P : Bool → c.S → Prop} (h : PB c t ρ g fun b g1 => P (!b) g1) : PB c (tNot t) ρ g P := fun σ I H ok en Q k =>
  h σ I H ok en _ fun b I1 H1 g1 s1 ok1 p1 => k (!b) I1 H1 g1 s1 ok1 p1
theorem pb_and {P : Bool → c.S → Prop} (h : PB c t ρ g fun b g1 => if b = true then PB c u ρ g1 P else P false g1) : PB c (tAnd t u) ρ g P := fun σ I H ok en Q k =>
  h σ I H ok en _ fun b I1 H1 g1 s1 ok1 p1 => by
    cases b with
    | true => exact p1 σ I1 H1 ok1 (en.mono s1.im) Q fun b2 I2 H2 g2 s2 ok2 p2 => k b2 I2 H2 g2 (s1.trans s2) ok2 p2
    | false => exact k false I1 H1 g1 s1 ok1 p1
theorem pb_or {P : Bool → c.S → Prop} (h : PB c t ρ g fun b g1 => if b = true then P true g1 else PB c u ρ g1 P) : PB c (tOr t u) ρ g P := fun σ I H ok en Q k =>
  h σ I H ok en _ fun b I1 H1 g1 s1 ok1 p1 => by
    cases b with
    | true => exact k true I1 H1 g1 s1 ok1 p1
    | false => exact p1 σ I1 H1 ok1 (en.mono s1.im) Q fun b2 I2 H2 g2 s2 ok2 p2 => k b2 I2 H2 g2 (s1.trans s2) ok2 p2
/-- and, or, not as values: bools -/
theorem pv_and (h : PV c ta ρ g fun e g1 => ∃ b, e = .d (.bool b) ∧ if b = true then PV c tb ρ g1 P else P (.d (.bool false)) g1) : PV c (tAndV ta tb) ρ g P := fun σ I H ok en Q k =>
  h σ I H ok en _ fun v I1 H1 g1 e s1 ok1 r1 ⟨b, e1, p1⟩ => by
    subst e1
    cases r1
    refine ⟨b, rfl, ?_⟩
    cases b with
    | true => exact p1 σ I1 H1 ok1 (en.mono s1.im) Q fun b2 I2 H2 g2 e2 s2 ok2 r2 p2 => k b2 I2 H2 g2 e2 (s1.trans s2) ok2 r2 p2
    | false => exact k _ I1 H1 g1 (.d (.bool false)) s1 ok1 (Dp.bl false) p1
theorem pv_or (h : PV c ta ρ g fun e g1 => ∃ b, e = .d (.bool b) ∧ if b = true then P (.d (.bool true)) g1 else PV c tb ρ g1 P) : PV c (tOrV ta tb) ρ g P := fun σ I H ok en Q k =>
  h σ I H ok en _ fun v I1 H1 g1 e s1 ok1 r1 ⟨b, e1, p1⟩ => by
    subst e1
    cases r1
    refine ⟨b, rfl, ?_⟩
    cases b with
    | true => exact k _ I1 H1 g1 (.d (.bool true)) s1 ok1 (Dp.bl true) p1
    | false => exact p1 σ I1 H1 ok1 (en.mono s1.im) Q fun b2 I2 H2 g2 e2 s2 ok2 r2 p2 => k b2 I2 H2 g2 e2 (s1.trans s2) ok2 r2 p2
theorem pv_not (h : PV c ta ρ g fun e g1 => ∃ b, e = .d (.bool b) ∧ P (.d (.bool (!b))) g1) : PV c (tNotV ta) ρ g P := fun σ I H ok en Q k =>
  h σ I H ok en _ fun v I1 H1 g1 e s1 ok1 r1 ⟨b, e1, p1⟩ => by
    subst e1
    cases r1
    exact ⟨b, rfl, k _ I1 H1 g1 (.d (.bool (!b))) s1 ok1 (Dp.bl _) p1⟩
theorem pv_if (h : PB c t ρ g fun b g1 => if b = true then PV c ta ρ g1 P else PV c tb ρ g1 P) : PV c (tIf t ta tb) ρ g P := fun σ I H ok en Q k =>
  h σ I H ok en _ fun b I1 H1 g1 s1 ok1 p1 => by
    cases b with
    | true => exact p1 σ I1 H1 ok1 (en.mono s1.im) Q fun b2 I2 H2 g2 e2 s2 ok2 r2 p2 => k b2 I2 H2 g2 e2 (s1.trans s2) ok2 r2 p2
    | false => exact p1 σ I1 H1 ok1 (en.mono s1.im) Q fun b2 I2 H2 g2 e2 s2 ok2 r2 p2 => k b2 I2 H2 g2 e2 (s1.trans s2) ok2 r2 p2
theorem pv_chain {r r' : R2} (h : PV c ta ρ g fun x g1 => PV c tb ρ g1 fun y g2 => O2 c r x y g2 fun z g3 => ∃ b, z = .d (.bool b) ∧ if b = true then PV c tc ρ g3 fun w g4 => O2 c r' y w g4 P else P (.d (.bool false)) g3) : PV c (tChain r r' ta tb tc) ρ g P := fun σ I H ok en Q k =>
  h σ I H ok en _ fun v I1 H1 g1 x s1 ok1 r1 p1 => p1 σ I1 H1 ok1 (en.mono s1.im) _ fun u I2 H2 g2 y s2 ok2 r2 p2 =>
    p2 I2 H2 v u ok2 (r1.mono s2.im) r2 _ fun z I3 H3 g3 e s3 ok3 r3 ⟨b, e3, p3⟩ => by
      subst e3
      cases r3
      refine ⟨b, rfl, ?_⟩
      cases b with
      | true =>
        rw [if_pos rfl]
        refine p3 σ I3 H3 ok3 (en.mono ((s1.trans s2).trans s3).im) _ fun w I4 H4 g4 y4 s4 ok4 r4 p4 => ?_
        exact p4 I4 H4 u w ok4 (r2.mono (s3.trans s4).im) r4 Q fun z I5 H5 g5 e s5 ok5 r5 p5 => k z I5 H5 g5 e ((((s1.trans s2).trans s3).trans s4).trans s5) ok5 r5 p5
      | false => exact k _ I3 H3 g3 (.d (.bool false)) ((s1.trans s2).trans s3) ok3 (Dp.bl false) p3
/-- a promise over told values: F tells, of the ghost and the arguments, what holds of every result -/
def SpF (K : PySem.W.Frag) (F : (c : Ctx) → c.S → List EV → (EV → c.S → Prop) → Prop) : Sp := fun vs H Q _ => ∃ (c : Ctx) (I : Hp) (g : c.S) (es : List EV) (P : EV → c.S → Prop), c.K = K ∧ Ok c I H g ∧ Paired (RelE K I) vs es ∧ F c g es P ∧ End c I H g P Q
theorem pv_call {F : (c : Ctx) → c.S → List EV → (EV → c.S → Prop) → Prop} {E : XK} {tl : TA} (h : PAs c tl ρ g fun es g1 => F c g1 es P) : PV c (tCall (SpF c.K F) [] E tl) ρ g P := fun σ I H ok en Q k =>
  h σ I H ok en _ fun vs I1 H1 g1 es s1 ok1 r1 p1 => by
    show SpF c.K F (vs ++ []) H1 Q E
    rw [List.append_nil]
    exact ⟨c, I1, g1, es, P, rfl, ok1, r1, p1, fun v I2 H2 g2 e s2 ok2 r2 p2 => k v I2 H2 g2 e (s1.trans s2) ok2 r2 p2⟩
theorem pv_cb {r : List V → Hp → VK → Prop} {tl : TA} (h : PAs c tl ρ g fun es g1 => OC c r es g1 P) : PV c (tCB r tl) ρ g P := fun σ I H ok en Q k =>
  h σ I H ok en _ fun vs I1 H1 g1 es s1 ok1 r1 p1 => p1 I1 H1 vs ok1 r1 Q fun v I2 H2 g2 e s2 ok2 r2 p2 => k v I2 H2 g2 e (s1.trans s2) ok2 r2 p2
theorem pp_none {P : Option Int → c.S → Prop} (p : P none g) : PPart c tNoPart ρ g P := fun σ I H ok en Q k => k none I H g Step.refl ok p
theorem pp_some {P : Option Int → c.S → Prop} (h : PV c te ρ g fun e g1 => ∃ i, e = .d (.int i) ∧ P (some i) g1) : PPart c (tPart te) ρ g P := fun σ I H ok en Q k =>
  h σ I H ok en _ fun v I1 H1 g1 e s1 ok1 r1 ⟨i, e1, p1⟩ => by
    subst e1
    cases r1
    exact ⟨i, rfl, k (some i) I1 H1 g1 s1 ok1 p1⟩
theorem pv_sl {r : V → Option Int → Option Int → Hp → VK → Prop} {tl th : TO} (h : PV c te ρ g fun x g1 => PPart c tl ρ g1 fun lo g2 => PPart c th ρ g2 fun hi g3 => OSl c r x lo hi g3 P) : PV c (tSl r te tl th) ρ g P := fun σ I H ok en Q k =>
  h σ I H ok en _ fun v I1 H1 g1 x s1 ok1 r1 p1 => p1 σ I1 H1 ok1 (en.mono s1.im) _ fun lo I2 H2 g2 s2 ok2 p2 => p2 σ I2 H2 ok2 (en.mono (s1.trans s2).im) _ fun hi I3 H3 g3 s3 ok3 p3 =>
    p3 I3 H3 v ok3 (r1.mono (s2.trans s3).im) Q fun z I4 H4 g4 e s4 ok4 r4 p4 => k z I4 H4 g4 e (((s1.trans s2).trans s3).trans s4) ok4 r4 p4
end
section
variable (c : Ctx)
def PSt (t : TS) (ρ : Rho) (g : c.S) (Pn : Rho → c.S → Prop) (Pr : EV → c.S → Prop) : Prop := ∀ σ I H, Ok c I H g → EnvOk c.K I σ ρ → ∀ D : Ends,
  (∀ σ' I' H' g' ρ', Step c I H g I' H' g' → Ok c I' H' g' → EnvOk c.K I' σ' ρ' → Pn ρ' g' → D.nx σ' H') → End c I H g Pr D.rt → t D σ H
end
section
variable {c : Ctx} {ρ : Rho} {g : c.S} {Pn : Rho → c.S → Prop} {Pr : EV → c.S → Prop} {te ta tb : TE} {t u : TS} {tc : TT}
theorem ps_seq (h : PSt c t ρ g (fun ρ1 g1 => PSt c u ρ1 g1 Pn Pr) Pr) : PSt c (tSeq t u) ρ g Pn Pr := fun σ I H ok en D kn kr =>
  h σ I H ok en { D with nx := u D } (fun σ1 I1 H1 g1 ρ1 s1 ok1 en1 p1 => p1 σ1 I1 H1 ok1 en1 D (fun σ2 I2 H2 g2 ρ2 s2 ok2 en2 p2 => kn σ2 I2 H2 g2 ρ2 (s1.trans s2) ok2 en2 p2) fun v I2 H2 g2 e s2 ok2 r2 p2 => kr v I2 H2 g2 e (s1.trans s2) ok2 r2 p2) kr
theorem ps_next (p : Pn ρ g) : PSt c tNext ρ g Pn Pr := fun σ I H ok en D kn kr => kn σ I H g ρ Step.refl ok en p
theorem ps_ret (h : PV c te ρ g Pr) : PSt c (tRet te) ρ g Pn Pr := fun σ I H ok en D kn kr => h σ I H ok en D.rt kr
theorem ps_set {i : Nat} (h : PV c te ρ g fun e g1 => Pn (ρ.set i (some e)) g1) : PSt c (tAsg te (gName i)) ρ g Pn Pr := fun σ I H ok en D kn kr =>
  h σ I H ok en _ fun v I1 H1 g1 e s1 ok1 r1 p1 => kn _ I1 H1 g1 _ s1 ok1 ((en.mono s1.im).set i r1) p1
theorem ps_drop (h : PV c te ρ g fun e g1 => Pn ρ g1) : PSt c (tDrop te) ρ g Pn Pr := fun σ I H ok en D kn kr =>
  h σ I H ok en _ fun v I1 H1 g1 e s1 ok1 r1 p1 => kn _ I1 H1 g1 _ s1 ok1 (en.mono s1.im) p1
theorem ps_if (h : PB c tc ρ g fun b g1 => if b = true then PSt c t ρ g1 Pn Pr else PSt c u ρ g1 Pn Pr) : PSt c (tIfS tc t u) ρ g Pn Pr := fun σ I H ok en D kn kr =>
  h σ I H ok en _ fun b I1 H1 g1 s1 ok1 p1 => by
    cases b with
    | true => exact p1 σ I1 H1 ok1 (en.mono s1.im) D (fun σ2 I2 H2 g2 ρ2 s2 ok2 en2 p2 => kn σ2 I2 H2 g2 ρ2 (s1.trans s2) ok2 en2 p2) fun v I2 H2 g2 e s2 ok2 r2 p2 => kr v I2 H2 g2 e (s1.trans s2) ok2 r2 p2
    | false => exact p1 σ I1 H1 ok1 (en.mono s1.im) D (fun σ2 I2 H2 g2 ρ2 s2 ok2 en2 p2 => kn σ2 I2 H2 g2 ρ2 (s1.trans s2) ok2 en2 p2) fun v I2 H2 g2 e s2 ok2 r2 p2 => kr v I2 H2 g2 e (s1.trans s2) ok2 r2 p2
theorem PSt.imp {Pn' : Rho → c.S → Prop} (h : PSt c t ρ g Pn' Pr) (i : ∀ r g2, Pn' r g2 → Pn r g2) : PSt c t ρ g Pn Pr := fun σ I H ok en D kn kr =>
  h σ I H ok en D (fun σ2 I2 H2 g2 ρ2 s2 ok2 en2 p2 => kn σ2 I2 H2 g2 ρ2 s2 ok2 en2 (i _ _ p2)) kr
end
end Dl
set_option Elab.async false
set_option linter.all false
set_option maxRecDepth 100000
set_option maxHeartbeats 4000000
namespace Dl
open PySem PySem.Spec PyProof.Rows L2 PySem.PyData
mutual
theorem noD_self : ∀ {x : PyData}, PySem.W.alike x x = true → noD x = true
  | .none, _ => by rw [noD] <;> simp
  | .bool _, _ => by rw [noD] <;> simp
  | .int _, _ => by rw [noD] <;> simp
  | .str _, _ => by rw [noD] <;> simp
  | .list xs, h => by rw [PySem.W.alike] at h; rw [noD]; exact noDAll_self h
  | .tuple xs, h => by rw [PySem.W.alike] at h; rw [noD]; exact noDAll_self h
  | .dict _, h => by simp [PySem.W.alike] at h
theorem noDAll_self : ∀ {xs : List PyData}, PySem.W.alikeAll xs xs = true → noDAll xs = true
  | [], _ => by rw [noDAll]
  | x :: xs, h => by
    rw [PySem.W.alikeAll, Bool.and_eq_true] at h
    rw [noDAll, noD_self h.1, noDAll_self h.2]; rfl
end
mutual
def fit : PyData → Bool
  | .str x => decide (x.length ≤ 1000000)
  | .list xs => decide (xs.length ≤ 1000000) && fitAll xs
  | .tuple xs => decide (xs.length ≤ 1000000) && fitAll xs
  | .dict _ => true
  | .int i => decide (-(2 ^ 61) ≤ i) && decide (i ≤ 2 ^ 61)
  | _ => true
def fitAll : List PyData → Bool
  | [] => true
  | x :: xs => fit x && fitAll xs
end
theorem fitAll_mem : ∀ {xs : List PyData} {x : PyData}, fitAll xs = true → x ∈ xs → fit x = true
  | [], _, _, h => by cases h
  | y :: ys, x, h, m => by
    rw [fitAll, Bool.and_eq_true] at h
    rcases List.mem_cons.mp m with e | m
    · rw [e]; exact h.1
    · exact fitAll_mem h.2 m
theorem fitAll_of : ∀ {xs : List PyData}, (∀ x ∈ xs, fit x = true) → fitAll xs = true
  | [], _ => by rw [fitAll]
  | y :: ys, h => by
    rw [fitAll, Bool.and_eq_true]
    exact ⟨h y List.mem_cons_self, fitAll_of fun x m => h x (List.mem_cons_of_mem _ m)⟩
theorem fitAll_iff {xs : List PyData} : fitAll xs = true ↔ ∀ x ∈ xs, fit x = true := ⟨fun h x m => fitAll_mem h m, fitAll_of⟩
theorem fit_tup {xs : List PyData} : fit (.tuple xs) = true ↔ xs.length ≤ 1000000 ∧ ∀ x ∈ xs, fit x = true := by
  rw [fit, Bool.and_eq_true, decide_eq_true_eq, fitAll_iff]
theorem fit_lst {xs : List PyData} : fit (.list xs) = true ↔ xs.length ≤ 1000000 ∧ ∀ x ∈ xs, fit x = true := by
  rw [fit, Bool.and_eq_true, decide_eq_true_eq, fitAll_iff]
theorem fit_int {i : Int} : fit (.int i) = true ↔ -(2 ^ 61) ≤ i ∧ i ≤ 2 ^ 61 := by rw [fit, Bool.and_eq_true, decide_eq_true_eq, decide_eq_true_eq]
theorem fit_str {x : Str} : fit (.str x) = true ↔ x.length ≤ 1000000 ∧ True := by
  rw [fit, decide_eq_true_eq, and_true]
mutual
theorem noD_of_lay : ∀ {d : PyData}, d.canLay0 = true → noD d = true
  | .none, _ => by rw [noD] <;> simp
  | .bool _, _ => by rw [noD] <;> simp
  | .int _, _ => by rw [noD] <;> simp
  | .str _, _ => by rw [noD] <;> simp
  | .list xs, h => by rw [PyData.canLay0] at h; rw [noD]; exact noDAll_of_lay h
  | .tuple xs, h => by rw [PyData.canLay0] at h; rw [noD]; exact noDAll_of_lay h
  | .dict _, h => by rw [PyData.canLay0] at h; cases h
theorem noDAll_of_lay : ∀ {xs : List PyData}, PyData.canLayAll0 xs = true → noDAll xs = true
  | [], _ => by rw [noDAll]
  | x :: xs, h => by
    rw [PyData.canLayAll0, Bool.and_eq_true] at h
    rw [noDAll, noD_of_lay h.1, noDAll_of_lay h.2]; rfl
end
theorem layAll_of : ∀ {xs : List PyData}, (∀ x ∈ xs, x.canLay0 = true) → PyData.canLayAll0 xs = true
  | [], _ => by rw [PyData.canLayAll0]
  | y :: ys, h => by
    rw [PyData.canLayAll0, Bool.and_eq_true]
    exact ⟨h y List.mem_cons_self, layAll_of fun x m => h x (List.mem_cons_of_mem _ m)⟩
theorem shaped_of {d : PyData} (h : d.canLay0 = true) (k : d.depth ≤ 64) : SeqAt.shaped d = true := by
  show (d.canLay0 && decide (d.depth ≤ 64)) = true
  rw [h, decide_eq_true k]; rfl
theorem million : (1000000 : Nat) ≤ sizeLine := by rw [sizeLine_eq]; decide
theorem le_line {n : Nat} (h : n ≤ 1000000) : n ≤ sizeLine := Nat.le_trans h million
def tyN : PyData → String
  | .none => "NoneType" | .bool _ => "bool" | .int _ => "int" | .str _ => "str" | .list _ => "list" | .tuple _ => "tuple" | .dict _ => "dict"
theorem tyx_of {K : PySem.W.Frag} {H : Hp} : ∀ {d : PyData} {v : V}, Dp K H v d → TyX K H v (.type (tyN d))
  | .none, _, h => by cases h; exact .base .non
  | .bool b, _, h => by cases h; exact .base (.bl b)
  | .int i, _, h => by cases h; exact .base (.int i)
  | .str x, _, h => by cases h; exact .base (.str x)
  | .list ds, _, h => by
    cases h with
    | lst h1 h2 =>
      rcases h1 with (h1 | ⟨o, h1⟩) | ⟨o, its, n, h1, hc, _⟩
      · exact .base (.lst h1)
      · exact .base (.frz h1)
      · exact .kList h1 hc
  | .tuple ds, _, h => by
    cases h with
    | tup h1 h2 =>
      rcases h1 with (h1 | ⟨o, h1⟩) | ⟨o, its, n, h1, hc, _⟩
      · exact .base (.tup h1)
      · exact .fTuple h1
      · exact .kTuple h1 hc
  | .dict _, _, h => by
    cases h with
    | dct h1 _ _ => exact .base (.dK h1)
def isInt : PyData → Bool | .int _ => true | .bool _ => true | _ => false
def isBool : PyData → Bool | .bool _ => true | _ => false
def isStr : PyData → Bool | .str _ => true | _ => false
def isTup : PyData → Bool | .tuple _ => true | _ => false
def isLst : PyData → Bool | .list _ => true | _ => false
def isT (T : String) (d : PyData) : Option Bool := kitB (tyN d) T
theorem isT_int : ∀ d : PyData, isT "int" d = some (isInt d)
  | .none => (by decide +kernel : kitB "NoneType" "int" = some false)
  | .bool _ => (by decide +kernel : kitB "bool" "int" = some true)
  | .int _ => (by decide +kernel : kitB "int" "int" = some true)
  | .str _ => (by decide +kernel : kitB "str" "int" = some false)
  | .list _ => (by decide +kernel : kitB "list" "int" = some false)
  | .tuple _ => (by decide +kernel : kitB "tuple" "int" = some false)
  | .dict _ => (by decide +kernel : kitB "dict" "int" = some false)
theorem isT_bool : ∀ d : PyData, isT "bool" d = some (isBool d)
  | .none => (by decide +kernel : kitB "NoneType" "bool" = some false)
  | .bool _ => (by decide +kernel : kitB "bool" "bool" = some true)
  | .int _ => (by decide +kernel : kitB "int" "bool" = some false)
  | .str _ => (by decide +kernel : kitB "str" "bool" = some false)
  | .list _ => (by decide +kernel : kitB "list" "bool" = some false)
  | .tuple _ => (by decide +kernel : kitB "tuple" "bool" = some false)
  | .dict _ => (by decide +kernel : kitB "dict" "bool" = some false)
theorem isT_str : ∀ d : PyData, isT "str" d = some (isStr d)
  | .none => (by decide +kernel : kitB "NoneType" "str" = some false)
  | .bool _ => (by decide +kernel : kitB "bool" "str" = some false)
  | .int _ => (by decide +kernel : kitB "int" "str" = some false)
  | .str _ => (by decide +kernel : kitB "str" "str" = some true)
  | .list _ => (by decide +kernel : kitB "list" "str" = some false)
  | .tuple _ => (by decide +kernel : kitB "tuple" "str" = some false)
  | .dict _ => (by decide +kernel : kitB "dict" "str" = some false)
theorem isT_tuple : ∀ d : PyData, isT "tuple" d = some (isTup d)
  | .none => (by decide +kernel : kitB "NoneType" "tuple" = some false)
  | .bool _ => (by decide +kernel : kitB "bool" "tuple" = some false)
  | .int _ => (by decide +kernel : kitB "int" "tuple" = some false)
  | .str _ => (by decide +kernel : kitB "str" "tuple" = some false)
  | .list _ => (by decide +kernel : kitB "list" "tuple" = some false)
  | .tuple _ => (by decide +kernel : kitB "tuple" "tuple" = some true)
  | .dict _ => (by decide +kernel : kitB "dict" "tuple" = some false)
theorem isT_list : ∀ d : PyData, isT "list" d = some (isLst d)
  | .none => (by decide +kernel : kitB "NoneType" "list" = some false)
  | .bool _ => (by decide +kernel : kitB "bool" "list" = some false)
  | .int _ => (by decide +kernel : kitB "int" "list" = some false)
  | .str _ => (by decide +kernel : kitB "str" "list" = some false)
  | .list _ => (by decide +kernel : kitB "list" "list" = some true)
  | .tuple _ => (by decide +kernel : kitB "tuple" "list" = some false)
  | .dict _ => (by decide +kernel : kitB "dict" "list" = some false)
section
variable {c : Ctx} {ρ : Rho} {g : c.S} {P P' : EV → c.S → Prop} {te ta tb tc : TE} {t u : TT} {I H : Hp} {Q : VK}
theorem cr_isi {X : Cx} {K : PySem.W.Frag} (e : X.K = K := by rfl) : CallR X (.builtin "isinstance") (rIsi K) := by subst e; exact call_isi
theorem cr_isiT {X : Cx} {K : PySem.W.Frag} (e : X.K = K := by rfl) : CallR X (.builtin "isinstance") (rIsiT K) := by subst e; exact call_isiT
theorem oc_isi {d : PyData} {T : String} {b : Bool} (h : isT T d = some b) (p : P (.d (.bool b)) g) : OC c (rIsi c.K) [.d d, .r (.ty T)] g P := fun I H vs ok r Q k => by
  cases r with
  | cons r1 r =>
    cases r with
    | cons r2 r =>
      cases r
      cases r2
      exact ⟨_, _, _, _, b, rfl, .ty T, tyx_of (dp_of ok r1), kit_ty h, k.here (e := .d (.bool b)) ok (Dp.bl b) p⟩
theorem kitAny2 {K : PySem.W.Frag} {a A B : String} {x y : Bool} (h1 : kitB a A = some x) (h2 : kitB a B = some y) : PySem.W.kitAny K (.type a) [.type A, .type B] = some (x || y) := by
  refine kitAny_cons (kit_ty h1) (fun e => ?_) (fun e => by rw [e]; rfl)
  rw [e, Bool.false_or]
  exact kitAny_cons (kit_ty h2) (fun e => by rw [e]; exact kitAny_nil) (fun e => e)
theorem pv_isi2 {A B : String} (h : PV c te ρ g fun x g1 => ∃ d a b, x = .d d ∧ isT A d = some a ∧ isT B d = some b ∧ P (.d (.bool (a || b))) g1) :
    PV c (tCB (rIsiT c.K) (tCons te (tCons (tTup (tCons (tC (.ty A)) (tCons (tC (.ty B)) tNil))) tNil))) ρ g P := fun σ I H ok en Q k =>
  h σ I H ok en _ fun v I1 H1 g1 e s1 ok1 r1 ⟨d, a, b, e1, ha, hb, p1⟩ => by
    subst e1
    refine ⟨by show 2 ≤ sizeLine; exact le_line (by decide), fun p hp => ?_⟩
    have ok2 := ok1.grow (o := .tup [.ty A, .ty B]) hp
    exact ⟨v, p, _, _, _, _, rfl, upd_same, .cons (.ty A) (.cons (.ty B) .nil), tyx_of (dp_of ok2 r1), kitAny2 ha hb, k _ _ _ g1 (.d (.bool (a || b))) (s1.trans (Step.grow hp)) ok2 (Dp.bl _) p1⟩
theorem o_ii {f : Int → Int → Int} {i j : Int} (p : P (.d (.int (f i j))) g) : O2 c (rI0 fun i j => .int (f i j)) (.d (.int i)) (.d (.int j)) g P := fun I H xv yv ok rx ry Q k => by
  cases rx; cases ry
  exact ⟨i, j, rfl, rfl, k.here (e := .d (.int (f i j))) ok (Dp.int _) p⟩
theorem o_ib {f : Int → Int → Bool} {i j : Int} (p : P (.d (.bool (f i j))) g) : O2 c (rI0 fun i j => .bl (f i j)) (.d (.int i)) (.d (.int j)) g P := fun I H xv yv ok rx ry Q k => by
  cases rx; cases ry
  exact ⟨i, j, rfl, rfl, k.here (e := .d (.bool (f i j))) ok (Dp.bl _) p⟩
theorem o_iic {C : Int → Int → Prop} {f : Int → Int → Int} {i j : Int} (h : C i j) (p : P (.d (.int (f i j))) g) : O2 c (rI C fun i j => .int (f i j)) (.d (.int i)) (.d (.int j)) g P := fun I H xv yv ok rx ry Q k => by
  cases rx; cases ry
  exact ⟨i, j, rfl, rfl, h, k.here (e := .d (.int (f i j))) ok (Dp.int _) p⟩
/-- list + list, whatever they are -/
def rCatL (K : PySem.W.Frag) : R2 := fun x y H Q => ∃ a b xs ys, x = .ref a ∧ y = .ref b ∧ SqL K H a xs ∧ SqL K H b ys ∧ xs.length + ys.length ≤ sizeLine ∧ ∀ p, H p = Option.none → Q (.ref p) (upd H p (.lst (xs ++ ys)))
theorem op_catL {X : Cx} : OpR X (binaryOp .Add) (rCatL X.K) := by
  intro pins s σ H x y v u Q I rx ry h
  obtain ⟨a, b, xs, ys, rfl, rfl, ha, hb, hz, q⟩ := h
  cases rx
  cases ry
  obtain ⟨its, r1, p1, _⟩ := I.list ha
  obtain ⟨its2, r2, p2, _⟩ := I.list hb
  obtain ⟨⟨cls, dd, data, sl⟩, n, ho, hc, _, hd⟩ := p1
  obtain ⟨⟨cls2, dd2, data2, sl2⟩, n2, ho2, hc2, _, hd2⟩ := p2
  simp only at hc hd hc2 hd2
  subst hc hd hc2 hd2
  have hsz : its.toArray.size + its2.toArray.size ≤ sizeLine := by rw [List.size_toArray, List.size_toArray, ← r1.length, ← r2.length]; exact hz
  have e : its.toArray ++ its2.toArray = (its ++ its2).toArray := by simp
  refine concat_meets ⟨_, ho, rfl⟩ ⟨_, ho2, rfl⟩ noFill_list_add seq_list_add PySem.F.slot_list_add PySem.F.entry_list_add (PySem.F.args_list_add_2 _ _) (list_addW a b its.toArray its2.toArray n n2 dd dd2 sl sl2 hsz) ⟨ho, ho2, ?_⟩
  rw [e]
  exact ⟨.ref _, _, I.lnew (t' := s.toks) (r1.append r2) (by rw [List.length_append]; exact hz), rfl, q _ I.fresh⟩
def zAdd (K : PySem.W.Frag) : R2 := fun x y H Q => (rI0 fun i j => .int (i + j)) x y H Q ∨ (∃ i j, x = .str i ∧ y = .str j ∧ i.length + j.length ≤ sizeLine ∧ Q (.str (i ++ j)) H) ∨ rCatA K x y H Q ∨ rCatL K x y H Q
theorem op_zadd {X : Cx} {K : PySem.W.Frag} (e : X.K = K := by rfl) : OpR X (binaryOp .Add) (zAdd K) := by subst e; exact op_add.or (op_add_str.or (op_catA.or op_catL))
theorem o_add {i j : Int} (p : P (.d (.int (i + j))) g) : O2 c (zAdd c.K) (.d (.int i)) (.d (.int j)) g P := fun I H xv yv ok rx ry Q k =>
  .inl (o_ii (f := fun i j => i + j) p I H xv yv ok rx ry Q k)
theorem o_addS {i j : Str} (hz : i.length + j.length ≤ sizeLine) (p : P (.d (.str (i ++ j))) g) : O2 c (zAdd c.K) (.d (.str i)) (.d (.str j)) g P := fun I H xv yv ok rx ry Q k => by
  cases rx; cases ry
  exact .inr (.inl ⟨i, j, rfl, rfl, hz, k.here (e := .d (.str (i ++ j))) ok (Dp.str _) p⟩)
theorem o_addT {ds es : List PyData} (hz : ds.length + es.length ≤ sizeLine) (p : P (.d (.tuple (ds ++ es))) g) : O2 c (zAdd c.K) (.d (.tuple ds)) (.d (.tuple es)) g P := fun I H xv yv ok rx ry Q k => by
  cases rx with
  | @tup a xs _ hx ax =>
    cases ry with
    | @tup b ys _ hy ay =>
      refine .inr (.inr (.inl ⟨a, b, xs, ys, rfl, rfl, ok.ex.seqT hx, ok.ex.seqT hy, by rw [dpAll_len ax, dpAll_len ay]; exact hz, fun e => ?_, fun _ e => ?_, fun _ _ q hq => ?_⟩))
      · subst e
        cases ax
        exact k.here (e := .d (.tuple ([] ++ es))) ok (Dp.tup hy ay) p
      · subst e
        cases ay
        rw [List.append_nil] at p
        exact k.here (e := .d (.tuple ds)) ok (Dp.tup hx ax) p
      · exact k _ (upd I q (.tup (xs ++ ys))) _ g (.d (.tuple (ds ++ es))) (Step.new ok hq) (ok.new hq) (Dp.tup (.inl (.inl upd_same)) (dpAll_mono (Ex.new (ok.free hq)) _ _ (dpAll_append ax ay))) p
theorem o_catL {ds es : List PyData} (hz : ds.length + es.length ≤ sizeLine) (p : P (.d (.list (ds ++ es))) g) : O2 c (zAdd c.K) (.d (.list ds)) (.d (.list es)) g P := fun I H xv yv ok rx ry Q k => by
  cases rx with
  | @lst a xs _ hx ax =>
    cases ry with
    | @lst b ys _ hy ay =>
      exact .inr (.inr (.inr ⟨a, b, xs, ys, rfl, rfl, ok.ex.seqL hx, ok.ex.seqL hy, by rw [dpAll_len ax, dpAll_len ay]; exact hz, fun q hq => k _ (upd I q (.lst (xs ++ ys))) _ g (.d (.list (ds ++ es))) (Step.new ok hq) (ok.new hq) (Dp.lst (.inl (.inl upd_same)) (dpAll_mono (Ex.new (ok.free hq)) _ _ (dpAll_append ax ay))) p⟩))
def zEq (K : PySem.W.Frag) : R2 := fun x y H Q => rEq x y H Q ∨ rEqD K x y H Q
theorem op_zeq {X : Cx} {K : PySem.W.Frag} (hu : X.A.units + 64 < cLine) (e : X.K = K := by rfl) : OpR X (compareOp .Eq) (zEq K) := by subst e; exact op_eq.or (op_eqD hu)
def zNe (K : PySem.W.Frag) : R2 := fun x y H Q => rNe x y H Q ∨ rNeD K x y H Q
theorem op_zne {X : Cx} {K : PySem.W.Frag} (hu : X.A.units + 64 < cLine) (e : X.K = K := by rfl) : OpR X (compareOp .NotEq) (zNe K) := by subst e; exact op_ne.or (op_neD hu)
theorem o_eq {d e : PyData} (hd : fit d = true) (he : fit e = true) (pd : d.canLay0 = true) (pe : e.canLay0 = true) (kd : d.depth ≤ 64) (ke : e.depth ≤ 64) (p : P (.d (.bool (PyData.eqv d e))) g) : O2 c (zEq c.K) (.d d) (.d e) g P := fun I H xv yv ok rx ry Q k =>
  .inr ⟨d, e, (dp_of ok rx).kit (noD_of_lay pd), (dp_of ok ry).kit (noD_of_lay pe), shaped_of pd kd, shaped_of pe ke, k.here (e := .d (.bool (PyData.eqv d e))) ok (Dp.bl _) p⟩
theorem o_eqI {i j : Int} (p : P (.d (.bool (decide (i = j)))) g) : O2 c (zEq c.K) (.d (.int i)) (.d (.int j)) g P := fun I H xv yv ok rx ry Q k => by
  cases rx; cases ry
  have e : decide (V.int i = V.int j) = decide (i = j) := by simp
  exact .inl ⟨rfl, by rw [e]; exact k.here (e := .d (.bool (decide (i = j)))) ok (Dp.bl _) p⟩
theorem o_eqS {i j : Str} (p : P (.d (.bool (decide (i = j)))) g) : O2 c (zEq c.K) (.d (.str i)) (.d (.str j)) g P := fun I H xv yv ok rx ry Q k => by
  cases rx; cases ry
  have e : decide (V.str i = V.str j) = decide (i = j) := by simp
  exact .inl ⟨rfl, by rw [e]; exact k.here (e := .d (.bool (decide (i = j)))) ok (Dp.bl _) p⟩
theorem o_eqB {i j : Bool} (p : P (.d (.bool (decide (i = j)))) g) : O2 c (zEq c.K) (.d (.bool i)) (.d (.bool j)) g P := fun I H xv yv ok rx ry Q k => by
  cases rx; cases ry
  have e : decide (V.bl i = V.bl j) = decide (i = j) := by simp
  exact .inl ⟨rfl, by rw [e]; exact k.here (e := .d (.bool (decide (i = j)))) ok (Dp.bl _) p⟩
theorem o_neI {i j : Int} (p : P (.d (.bool (!decide (i = j)))) g) : O2 c (zNe c.K) (.d (.int i)) (.d (.int j)) g P := fun I H xv yv ok rx ry Q k => by
  cases rx; cases ry
  have e : decide (V.int i = V.int j) = decide (i = j) := by simp
  exact .inl ⟨rfl, by rw [e]; exact k.here (e := .d (.bool (!decide (i = j)))) ok (Dp.bl _) p⟩
theorem o_neB {i j : Bool} (p : P (.d (.bool (!decide (i = j)))) g) : O2 c (zNe c.K) (.d (.bool i)) (.d (.bool j)) g P := fun I H xv yv ok rx ry Q k => by
  cases rx; cases ry
  have e : decide (V.bl i = V.bl j) = decide (i = j) := by simp
  exact .inl ⟨rfl, by rw [e]; exact k.here (e := .d (.bool (!decide (i = j)))) ok (Dp.bl _) p⟩
def zLeS : R2 := fun x y H Q => ∃ i j, x = .str i ∧ y = .str j ∧ Q (.bl (!decide (j.cps.toList < i.cps.toList))) H
def zLe : R2 := fun x y H Q => (rI0 fun i j => .bl (decide (i ≤ j))) x y H Q ∨ zLeS x y H Q
theorem op_zle {X : Cx} : OpR X (compareOp .LtE) zLe := op_le.or op_le_str
theorem o_le {i j : Int} (p : P (.d (.bool (decide (i ≤ j)))) g) : O2 c zLe (.d (.int i)) (.d (.int j)) g P := fun I H xv yv ok rx ry Q k =>
  .inl (o_ib (f := fun i j => decide (i ≤ j)) p I H xv yv ok rx ry Q k)
theorem o_leS {i j : Str} (p : P (.d (.bool (!decide (j.cps.toList < i.cps.toList)))) g) : O2 c zLe (.d (.str i)) (.d (.str j)) g P := fun I H xv yv ok rx ry Q k => by
  cases rx; cases ry
  exact .inr ⟨i, j, rfl, rfl, k.here (e := .d (.bool _)) ok (Dp.bl _) p⟩
/-- a < b: whole numbers, or data that are alike -/
def rLtD (K : PySem.W.Frag) : R2 := fun x y H Q => ∃ d e, L2.Dp K H x d ∧ L2.Dp K H y e ∧ PySem.W.alike d e = true ∧ d ≠ .none ∧ min d.depth e.depth ≤ 60 ∧ Q (.bl (PySem.W.dataLt d e)) H
theorem op_ltD {X : Cx} (hu : X.A.units + 64 < cLine) : OpR X (compareOp .Lt) (rLtD X.K) := by
  intro pins s σ H x y v u Q I rx ry h
  obtain ⟨d, e, hd, he, al, hn, hm, q⟩ := h
  obtain ⟨as, r1⟩ := L2.Dp.reads I d x v hd rx
  obtain ⟨bs, r2⟩ := L2.Dp.reads I e y u he ry
  exact PySem.W.rcLt_alike d e _ _ _ _ as bs r1 r2 al hn (by omega) _ _ _ _ ⟨.bl _, H, I, rfl, q⟩
end
end Dl
set_option Elab.async false
set_option linter.all false
set_option maxRecDepth 100000
set_option maxHeartbeats 4000000
namespace Dl
open PySem PySem.Spec PyProof.Rows L2
section
variable {c : Ctx} {ρ : Rho} {g : c.S} {P P' : EV → c.S → Prop} {te ta tb tc : TE} {t u : TT} {I H : Hp} {Q : VK}
def zLt (K : PySem.W.Frag) : R2 := fun x y H Q => (rI0 fun i j => .bl (decide (i < j))) x y H Q ∨ rLtD K x y H Q
theorem op_zlt {X : Cx} {K : PySem.W.Frag} (hu : X.A.units + 64 < cLine) (e : X.K = K := by rfl) : OpR X (compareOp .Lt) (zLt K) := by subst e; exact op_lt.or (op_ltD hu)
theorem o_lt {i j : Int} (p : P (.d (.bool (decide (i < j)))) g) : O2 c (zLt c.K) (.d (.int i)) (.d (.int j)) g P := fun I H xv yv ok rx ry Q k =>
  .inl (o_ib (f := fun i j => decide (i < j)) p I H xv yv ok rx ry Q k)
theorem o_ltD {d e : PyData} (pd : noD d = true) (pe : noD e = true) (h : PySem.W.alike d e = true) (hn : d ≠ .none) (hm : min d.depth e.depth ≤ 60) (p : P (.d (.bool (PySem.W.dataLt d e))) g) : O2 c (zLt c.K) (.d d) (.d e) g P := fun I H xv yv ok rx ry Q k =>
  .inr ⟨d, e, (dp_of ok rx).kit pd, (dp_of ok ry).kit pe, h, hn, hm, k.here (e := .d (.bool _)) ok (Dp.bl _) p⟩
theorem o_isN {d : PyData} {b : Bool} (h : (match d with | .none => true | _ => false) = b) (p : P (.d (.bool b)) g) : O2 c (fun x y H Q => y = .non ∧ Q (.bl (decide (x = .non))) H) (.d d) (.d .none) g P := fun I H xv yv ok rx ry Q k => by
  cases ry
  refine ⟨rfl, ?_⟩
  have e : decide (xv = .non) = b := by
    subst h
    cases d <;> cases rx <;> simp
  rw [e]
  exact k.here (e := .d (.bool b)) ok (Dp.bl _) p
theorem o_notN {d : PyData} {b : Bool} (h : (match d with | .none => false | _ => true) = b) (p : P (.d (.bool b)) g) : O2 c (fun x y H Q => y = .non ∧ Q (.bl (!decide (x = .non))) H) (.d d) (.d .none) g P := fun I H xv yv ok rx ry Q k => by
  cases ry
  refine ⟨rfl, ?_⟩
  have e : (!decide (xv = .non)) = b := by
    subst h
    cases d <;> cases rx <;> simp
  rw [e]
  exact k.here (e := .d (.bool b)) ok (Dp.bl _) p
/-- a sign in a text; a text that may be longer -/
def zInS : R2 := fun x y H Q => ∃ (c : Nat) (z : Str), x = .str ⟨#[c]⟩ ∧ y = .str z ∧ Q (.bl (decide (c ∈ z.cps.toList))) H
theorem op_zinS {X : Cx} : OpR X (compareOp .In) zInS := op_in_sign
theorem o_inS {n : Nat} {z : Str} (p : P (.d (.bool (decide (n ∈ z.cps.toList)))) g) : O2 c zInS (.d (.str ⟨#[n]⟩)) (.d (.str z)) g P := fun I H xv yv ok rx ry Q k => by
  cases rx; cases ry
  exact ⟨n, z, rfl, rfl, k.here (e := .d (.bool _)) ok (Dp.bl _) p⟩
def zIx (K : PySem.W.Frag) (w : World) : R2 := fun x y H Q => rIx K x y H Q ∨ rIxD K w x y H Q
theorem ix_z {X : Cx} {K : PySem.W.Frag} {w : World} (e : X.K = K := by rfl) (e2 : X.w = w := by rfl) : IxR X (zIx K w) := by subst e e2; exact ix_seq.or ix_kdict
variable {w : World}
theorem dpAll_at {K : PySem.W.Frag} {H : Hp} {ds : List PyData} {vs : List V} {i : Int} {d : PyData} (h : DpAll K H vs ds) (e : atI ds i = some d) : ∃ v, atI vs i = some v ∧ Dp K H v d := by
  unfold atI at e ⊢
  rw [dpAll_len h]
  cases q : ixN ds.length i with
  | none => rw [q] at e; cases e
  | some j =>
    rw [q] at e
    exact dpAll_get h e
theorem at0 {α : Type} {x : α} {xs : List α} : atI (x :: xs) 0 = some x := atI_nat (j := 0) rfl
theorem at1 {α : Type} {x y : α} {xs : List α} : atI (x :: y :: xs) 1 = some y := atI_nat (j := 1) rfl
theorem o_ixT {ds : List PyData} {i : Int} {d : PyData} (e : atI ds i = some d) (p : P (.d d) g) : O2 c (zIx c.K w) (.d (.tuple ds)) (.d (.int i)) g P := fun I H xv yv ok rx ry Q k => by
  cases ry
  cases rx with
  | @tup a xs _ hx ax =>
    obtain ⟨v, e1, r⟩ := dpAll_at ax e
    exact .inl (.inr (.inl ⟨a, xs, i, v, rfl, rfl, ok.ex.seqT hx, e1, k.here (e := .d d) ok r p⟩))
theorem o_ixL {ds : List PyData} {i : Int} {d : PyData} (e : atI ds i = some d) (p : P (.d d) g) : O2 c (zIx c.K w) (.d (.list ds)) (.d (.int i)) g P := fun I H xv yv ok rx ry Q k => by
  cases ry
  cases rx with
  | @lst a xs _ hx ax =>
    obtain ⟨v, e1, r⟩ := dpAll_at ax e
    exact .inl (.inl ⟨a, xs, i, v, rfl, rfl, ok.ex.seqL hx, e1, k.here (e := .d d) ok r p⟩)
theorem o_ixS {z : Str} {i : Int} {n : Nat} (hz : z.length ≤ sizeLine) (e : atI z.cps.toList i = some n) (p : P (.d (.str ⟨#[n]⟩)) g) : O2 c (zIx c.K w) (.d (.str z)) (.d (.int i)) g P := fun I H xv yv ok rx ry Q k => by
  cases ry; cases rx
  exact .inl (.inr (.inr ⟨z, i, n, rfl, rfl, hz, e, k.here (e := .d (.str _)) ok (Dp.str _) p⟩))
theorem o_ixDT {a t : Addr} {z : Str} {fs : List V} (h : KDct c.K w a z (.ref t)) (ht : ∀ H, SqT c.K H t fs) (p : P (.rl fs) g) : O2 c (zIx c.K w) (.r (.ref a)) (.d (.str z)) g P := fun I H xv yv ok rx ry Q k => by
  cases ry; cases rx
  exact .inr ⟨a, z, _, rfl, rfl, h, k.here (e := .rl fs) ok ⟨t, rfl, .inr (ht I)⟩ p⟩
/-- in a written dict -/
def rInK (d : Addr) (K : PySem.W.Frag) : R2 := fun x y H Q => ∃ (z : Str) (r : Option Value), x = .str z ∧ y = .ref d ∧ PySem.W.nsIn K d z = some r ∧ Q (.bl r.isSome) H
theorem op_inK {X : Cx} {K : PySem.W.Frag} {w : World} {d : Addr} {es : Array DictEntry} {n : Nat} (D : KDict K w d es n) (e : X.K = K := by rfl) (e2 : X.w = w := by rfl) : OpR X (compareOp .In) (rInK d K) := by subst e e2; exact op_in_kd D
theorem o_inK {a : Addr} {z : Str} {r : Option Value} (h : PySem.W.nsIn c.K a z = some r) (p : P (.d (.bool r.isSome)) g) : O2 c (rInK a c.K) (.d (.str z)) (.r (.ref a)) g P := fun I H xv yv ok rx ry Q k => by
  cases ry; cases rx
  exact ⟨z, r, rfl, rfl, h, k.here (e := .d (.bool _)) ok (Dp.bl _) p⟩
def zSl (K : PySem.W.Frag) : V → Option Int → Option Int → Hp → VK → Prop := fun x lo hi H Q => rSlA K x lo hi H Q ∨ rSlL K x lo hi H Q ∨ rSlS x lo hi H Q
theorem sl_z {X : Cx} {K : PySem.W.Frag} (e : X.K = K := by rfl) : SlR X (zSl K) := by subst e; exact sl_tupA.or (sl_list.or sl_str)
/-- a slice of a list of anything -/
def cutD {α : Type} (xs : List α) (lo hi : Option Int) : List α := (xs.drop (HT.sIx xs.length 0 lo)).take (HT.sIx xs.length xs.length hi - HT.sIx xs.length 0 lo)
theorem dpAll_cut {K : PySem.W.Frag} {H : Hp} {ds : List PyData} {vs : List V} (h : DpAll K H vs ds) (lo hi : Option Int) : DpAll K H (cutV vs lo hi) (cutD ds lo hi) := by
  unfold cutV cutD
  rw [dpAll_len h]
  exact dpAll_take _ (dpAll_drop _ h)
theorem cut_whole {α : Type} {xs : List α} {lo hi : Option Int} (h : HT.sIx xs.length 0 lo = 0 ∧ HT.sIx xs.length xs.length hi = xs.length) : cutD xs lo hi = xs := by
  unfold cutD
  rw [h.1, h.2]
  simp
theorem os_tup {ds : List PyData} {lo hi : Option Int} (p : P (.d (.tuple (cutD ds lo hi))) g) : OSl c (zSl c.K) (.d (.tuple ds)) lo hi g P := fun I H xv ok rx Q k => by
  cases rx with
  | @tup a xs _ hx ax =>
    have hl := dpAll_len ax
    refine .inl ⟨a, xs, rfl, ok.ex.seqT hx, fun hw => ?_, fun hw q hq => ?_⟩
    · rw [hl] at hw
      rw [cut_whole hw] at p
      exact k.here (e := .d (.tuple ds)) ok (Dp.tup hx ax) p
    · exact k _ (upd I q (.tup (cutV xs lo hi))) _ g (.d (.tuple _)) (Step.new ok hq) (ok.new hq) (Dp.tup (.inl (.inl upd_same)) (dpAll_mono (Ex.new (ok.free hq)) _ _ (dpAll_cut ax lo hi))) p
theorem os_lst {ds : List PyData} {lo hi : Option Int} (p : P (.d (.list (cutD ds lo hi))) g) : OSl c (zSl c.K) (.d (.list ds)) lo hi g P := fun I H xv ok rx Q k => by
  cases rx with
  | @lst a xs _ hx ax =>
    exact .inr (.inl ⟨a, xs, rfl, ok.ex.seqL hx, fun q hq => k _ (upd I q (.lst (cutV xs lo hi))) _ g (.d (.list _)) (Step.new ok hq) (ok.new hq) (Dp.lst (.inl (.inl upd_same)) (dpAll_mono (Ex.new (ok.free hq)) _ _ (dpAll_cut ax lo hi))) p⟩)
theorem os_str {z : Str} {lo hi : Option Int} (hz : z.length ≤ sizeLine) (p : P (.d (.str (cutS z lo hi))) g) : OSl c (zSl c.K) (.d (.str z)) lo hi g P := fun I H xv ok rx Q k => by
  cases rx
  exact .inr (.inr ⟨z, rfl, hz, k.here (e := .d (.str _)) ok (Dp.str _) p⟩)
def zLen (K : PySem.W.Frag) : List V → Hp → VK → Prop := fun xs H Q => ∃ x n, xs = [x] ∧ LenV K x H n ∧ Q (.int n) H
theorem cr_len {X : Cx} {K : PySem.W.Frag} (e : X.K = K := by rfl) : CallR X (.builtin "len") (zLen K) := by subst e; exact call_len
theorem cr_allZ {X : Cx} {K : PySem.W.Frag} (hc : X.calm = true) (e : X.K = K := by rfl) : CallR X (.builtin "all") (rAll K) := by subst e; exact cr_all hc
theorem pg_tupZ {X : Cx} {K : PySem.W.Frag} {es : List Expr} {k : Nat} {t : TGs} {n : Nat} {pos : Pos} (hc : X.calm = true) (h : PGs X es t) (hn : (assignEach es X.env).length = n := by rfl) (hst : (assignEach es X.env).findIdx? (·.1) = none := by rfl) (e : X.K = K := by rfl) : PG X (.Tuple es k pos) (gTup K n t) := by subst e; exact pg_tup hc h hn hst
theorem pi_tupZ {X : Cx} {K : PySem.W.Frag} {tg l : Expr} {tl : TE} (hl : PE X l tl) (e : X.K = K := by rfl) : PI X tg l (iTup K tl) := by subst e; exact pi_tup hl
theorem pi_lstZ {X : Cx} {K : PySem.W.Frag} {tg l : Expr} {tl : TE} (hl : PE X l tl) (e : X.K = K := by rfl) : PI X tg l (iList K tl) := by subst e; exact pi_list hl
theorem one_of {K : PySem.W.Frag} {I : Hp} {vs : List V} {e : EV} (r : Paired (RelE K I) vs [e]) : ∃ v, vs = [v] ∧ RelE K I v e := by
  cases r with
  | cons h t => cases t; exact ⟨_, rfl, h⟩
theorem two_of {K : PySem.W.Frag} {I : Hp} {vs : List V} {e f : EV} (r : Paired (RelE K I) vs [e, f]) : ∃ v u, vs = [v, u] ∧ RelE K I v e ∧ RelE K I u f := by
  cases r with
  | cons h t =>
    obtain ⟨u, e1, h1⟩ := one_of t
    exact ⟨_, u, by rw [e1], h, h1⟩
theorem oc_lenS {z : Str} (hz : z.length ≤ sizeLine) (p : P (.d (.int z.length)) g) : OC c (zLen c.K) [.d (.str z)] g P := fun I H vs ok r Q k => by
  obtain ⟨v, e, r1⟩ := one_of r
  subst e; cases r1
  exact ⟨_, z.length, rfl, ⟨hz, rfl⟩, k.here (e := .d (.int _)) ok (Dp.int _) p⟩
theorem oc_lenT {ds : List PyData} (p : P (.d (.int ds.length)) g) : OC c (zLen c.K) [.d (.tuple ds)] g P := fun I H vs ok r Q k => by
  obtain ⟨v, e, r1⟩ := one_of r
  subst e
  cases r1 with
  | @tup a xs _ hx ax => exact ⟨_, ds.length, rfl, .inr ⟨xs, ok.ex.seqT hx, (dpAll_len ax).symm⟩, k.here (e := .d (.int _)) ok (Dp.int _) p⟩
theorem oc_lenL {ds : List PyData} (p : P (.d (.int ds.length)) g) : OC c (zLen c.K) [.d (.list ds)] g P := fun I H vs ok r Q k => by
  obtain ⟨v, e, r1⟩ := one_of r
  subst e
  cases r1 with
  | @lst a xs _ hx ax => exact ⟨_, ds.length, rfl, .inl ⟨xs, ok.ex.seqL hx, (dpAll_len ax).symm⟩, k.here (e := .d (.int _)) ok (Dp.int _) p⟩
theorem oc_lenR {xs : List V} (p : P (.d (.int xs.length)) g) : OC c (zLen c.K) [.rl xs] g P := fun I H vs ok r Q k => by
  obtain ⟨v, e, a, e1, r1⟩ := one_of r
  subst e e1
  rcases r1 with h | h
  · exact ⟨_, xs.length, rfl, .inl ⟨xs, ok.ex.seqL h, rfl⟩, k.here (e := .d (.int _)) ok (Dp.int _) p⟩
  · exact ⟨_, xs.length, rfl, .inr ⟨xs, ok.ex.seqT h, rfl⟩, k.here (e := .d (.int _)) ok (Dp.int _) p⟩
theorem oc_all {bs : List Bool} (p : P (.d (.bool (bs.all id))) g) : OC c (rAll c.K) [.d (.list (bs.map .bool))] g P := fun I H vs ok r Q k => by
  obtain ⟨v, e, r1⟩ := one_of r
  subst e
  cases r1 with
  | @lst a xs _ hx ax =>
    have e := dpAll_bls ax
    subst e
    exact ⟨a, bs, rfl, ok.ex.seqL hx, k.here (e := .d (.bool _)) ok (Dp.bl _) p⟩
def zInt : List V → Hp → VK → Prop := fun xs H Q => (∃ i, xs = [.int i] ∧ Q (.int i) H) ∨ ∃ k, xs = [.bl k] ∧ Q (.int (if k then 1 else 0)) H
theorem cr_int {X : Cx} : CallR X (.type "int") zInt := call_int1
theorem oc_int {i : Int} (p : P (.d (.int i)) g) : OC c zInt [.d (.int i)] g P := fun I H vs ok r Q k => by
  obtain ⟨v, e, r1⟩ := one_of r
  subst e; cases r1
  exact .inl ⟨i, rfl, k.here (e := .d (.int _)) ok (Dp.int _) p⟩
def zAbs : List V → Hp → VK → Prop := fun xs H Q => ∃ i, xs = [.int i] ∧ Q (.int (if i < 0 then -i else i)) H
theorem cr_abs {X : Cx} : CallR X (.builtin "abs") zAbs := call_abs
theorem oc_abs {i : Int} (p : P (.d (.int (if i < 0 then -i else i))) g) : OC c zAbs [.d (.int i)] g P := fun I H vs ok r Q k => by
  obtain ⟨v, e, r1⟩ := one_of r
  subst e; cases r1
  exact ⟨i, rfl, k.here (e := .d (.int _)) ok (Dp.int _) p⟩
def zMax2 : List V → Hp → VK → Prop := fun xs H Q => ∃ i j, xs = [.int i, .int j] ∧ Q (.int (if j > i then j else i)) H
theorem cr_max2' {X : Cx} (hc : X.calm = true) : CallR X (.builtin "max") zMax2 := call_max2 hc
theorem oc_max2 {i j : Int} (p : P (.d (.int (if j > i then j else i))) g) : OC c zMax2 [.d (.int i), .d (.int j)] g P := fun I H vs ok r Q k => by
  obtain ⟨v, u, e, r1, r2⟩ := two_of r
  subst e; cases r1; cases r2
  exact ⟨i, j, rfl, k.here (e := .d (.int _)) ok (Dp.int _) p⟩
def zTuple (K : PySem.W.Frag) : List V → Hp → VK → Prop := fun xs H Q => ∃ p ys, xs = [.ref p] ∧ ((SqL K H p ys ∧ ∀ l, H l = none → Q (.ref l) (upd H l (.tup ys))) ∨ (SqT K H p ys ∧ Q (.ref p) H))
theorem cr_tuple {X : Cx} {K : PySem.W.Frag} (e : X.K = K := by rfl) : CallR X (.type "tuple") (zTuple K) := by subst e; exact call_tuple_of
theorem oc_tupleL {ds : List PyData} (p : P (.d (.tuple ds)) g) : OC c (zTuple c.K) [.d (.list ds)] g P := fun I H vs ok r Q k => by
  obtain ⟨v, e, r1⟩ := one_of r
  subst e
  cases r1 with
  | @lst a xs _ hx ax =>
    exact ⟨a, xs, rfl, .inl ⟨ok.ex.seqL hx, fun q hq => k _ (upd I q (.tup xs)) _ g (.d (.tuple _)) (Step.new ok hq) (ok.new hq) (Dp.tup (.inl (.inl upd_same)) (dpAll_mono (Ex.new (ok.free hq)) _ _ ax)) p⟩⟩
def zList (K : PySem.W.Frag) : List V → Hp → VK → Prop := fun xs H Q => ∃ p ys, xs = [.ref p] ∧ (SqL K H p ys ∨ SqT K H p ys) ∧ ∀ l, H l = none → Q (.ref l) (upd H l (.lst ys))
theorem cr_list {X : Cx} {K : PySem.W.Frag} (e : X.K = K := by rfl) : CallR X (.type "list") (zList K) := by subst e; exact call_list_of
theorem oc_listT {ds : List PyData} (p : P (.d (.list ds)) g) : OC c (zList c.K) [.d (.tuple ds)] g P := fun I H vs ok r Q k => by
  obtain ⟨v, e, r1⟩ := one_of r
  subst e
  cases r1 with
  | @tup a xs _ hx ax =>
    exact ⟨a, xs, rfl, .inr (ok.ex.seqT hx), fun q hq => k _ (upd I q (.lst xs)) _ g (.d (.list _)) (Step.new ok hq) (ok.new hq) (Dp.lst (.inl (.inl upd_same)) (dpAll_mono (Ex.new (ok.free hq)) _ _ ax)) p⟩
def zJoin (K : PySem.W.Frag) : V → List V → Hp → VK → Prop := fun x xs H Q => ∃ a p, ∃ ys : List Str, x = .str a ∧ xs = [.ref p] ∧ (SqL K H p (ys.map V.str) ∨ SqT K H p (ys.map V.str)) ∧ (ys.map (·.length)).sum + ys.length * a.length ≤ 16777216 ∧ Q (.str (Txt.join a ys)) H
theorem pe_joinZ {X : Cx} {K : PySem.W.Frag} {o e : Expr} {to te : TE} {apos pos : Pos} (ho : PE X o to) (he : PE X e te) (hb : attributeBase o "join" X.env (eval o X.env) = eval o X.env := by rfl) (hl : (apos.endLine == pos.line) = true := by rfl) (ek : X.K = K := by rfl) (hst : starEach [e] X.env = [(false, eval e X.env)] := by rfl) : PE X (.Call (.Attribute o "join" apos) [e] [] pos) (tM1 (zJoin K) to te) := by subst ek; exact pe_join ho he hst hb hl
theorem pv_join {x : Str} (h : PV c te ρ g fun e g1 => ∃ ys : List Str, e = .d (.list (ys.map .str)) ∧ (ys.map (·.length)).sum + ys.length * x.length ≤ 16777216 ∧ P (.d (.str (Txt.join x ys))) g1) : PV c (tM1 (zJoin c.K) (tC (.str x)) te) ρ g P := fun σ I H ok en Q k =>
  ⟨⟨x, rfl⟩, h σ I H ok en _ fun v I1 H1 g1 e s1 ok1 r1 ⟨ys, e1, hz, p1⟩ => by
    subst e1
    cases r1 with
    | @lst a xs _ hx ax =>
      have e := dpAll_strs ax
      subst e
      exact ⟨x, a, ys, rfl, rfl, .inl (ok1.ex.seqL hx), hz, k _ I1 H1 g1 (.d (.str _)) s1 ok1 (Dp.str _) p1⟩⟩
theorem pv_callA {i : Nat} {S : Addr → Option Sp} {f : Addr} {F : (c : Ctx) → c.S → List EV → (EV → c.S → Prop) → Prop} {tl : TA} (hi : ρ[i]? = some (some (.r (.ref f)))) (hS : S f = some (SpF c.K F)) (h : PAs c tl ρ g fun es g1 => F c g1 es P) :
    PV c (tCallA i S tl) ρ g P := fun σ I H ok en Q k => by
  obtain ⟨v, e1, r⟩ := en.2 i _ hi
  have r' : v = .ref f := r
  subst r'
  exact ⟨f, _, e1, hS, h σ I H ok en _ fun vs I1 H1 g1 es s1 ok1 r1 p1 => ⟨c, I1, g1, es, P, rfl, ok1, r1, p1, fun v I2 H2 g2 e s2 ok2 r2 p2 => k v I2 H2 g2 e (s1.trans s2) ok2 r2 p2⟩⟩
end
def setAll (σ : L2.St) (L : List (Nat × V)) : L2.St := L.foldl (fun s p => s.set p.1 (some p.2)) σ
structure Walk (c : Ctx) (J : It) (gt : TG) (js : List Nat) (n : Nat) (f : Nat → Rho → Rho) (I1 : Hp) : Prop where
  stop : ∀ i I H g, Ex I1 I → Ok c I H g → i = n → J.stop i H
  go : ∀ i I H g, Ex I1 I → Ok c I H g → i < n → J.go i H
  yld : ∀ i I H (g : c.S) x H', Ex I1 I → Ok c I H g → i < n → J.yld i H x H' → ∀ σ ρ, EnvOk c.K I σ ρ → ∀ Q : L2.St → Hp → Prop,
    (∀ L I2 H2, (∀ p ∈ L, p.1 ∈ js) → Step c I H g I2 H2 g → Ok c I2 H2 g → EnvOk c.K I2 (setAll σ L) (f i ρ) → Q (setAll σ L) H2) → gt x σ H' Q
def PIt (c : Ctx) (wi : TI) (gt : TG) (js : List Nat) (ρ : Rho) (g : c.S) (P : Nat → (Nat → Rho → Rho) → c.S → Prop) : Prop := ∀ σ I H, Ok c I H g → EnvOk c.K I σ ρ → ∀ R : It → Hp → Prop,
  (∀ J n f I1 H1 g1, Step c I H g I1 H1 g1 → Ok c I1 H1 g1 → Walk c J gt js n f I1 → P n f g1 → R J H1) → wi σ H R
theorem wipe_set {σ : L2.St} {i : Nat} {x : Option V} : ∀ {vs : List Nat}, i ∈ vs → wipe (σ.set i x) vs = wipe σ vs
  | [], h => by cases h
  | v :: vs, h => by
    unfold wipe
    by_cases e : i ∈ vs
    · rw [wipe_set e]
    · have e' : i = v := by
        rcases List.mem_cons.mp h with q | q
        · exact q
        · exact absurd q e
      subst e'
      have hc : ∀ {ws : List Nat} {σ : L2.St}, i ∉ ws → wipe (σ.set i x) ws = (wipe σ ws).set i x := by
        intro ws
        induction ws with
        | nil => intro σ _; rfl
        | cons z ws ih =>
          intro σ hn
          have h1 : i ≠ z := fun q => hn (by rw [q]; exact List.mem_cons_self)
          have h2 : i ∉ ws := fun q => hn (List.mem_cons_of_mem _ q)
          unfold wipe
          rw [ih h2, List.set_comm _ _ h1]
      rw [hc e, List.set_set]
theorem wipe_setAll {vs : List Nat} : ∀ {L : List (Nat × V)} {σ : L2.St}, (∀ p ∈ L, p.1 ∈ vs) → wipe (setAll σ L) vs = wipe σ vs
  | [], _, _ => rfl
  | p :: L, σ, h => by
    show wipe (setAll (σ.set p.1 (some p.2)) L) vs = _
    rw [wipe_setAll (fun q m => h q (List.mem_cons_of_mem _ m)), wipe_set (h p List.mem_cons_self)]
theorem wipe_wipe {vs : List Nat} : ∀ {ws : List Nat} {σ : L2.St}, (∀ i ∈ ws, i ∈ vs) → wipe (wipe σ ws) vs = wipe σ vs
  | [], _, _ => rfl
  | w :: ws, σ, h => by
    show wipe ((wipe σ ws).set w none) vs = _
    rw [wipe_set (h w List.mem_cons_self), wipe_wipe fun i m => h i (List.mem_cons_of_mem _ m)]
section
variable {c : Ctx} {ρ : Rho} {g : c.S} {P P' : EV → c.S → Prop} {te ta tb tc tl : TE} {t u tt : TT} {I H : Hp} {Q : VK}
/-- a comprehension, by an invariant over the list so far -/
theorem pv_lc {wi : TI} {gt : TG} {js vs : List Nat}
    (h : PIt c wi gt js ρ g fun n f g1 => (∀ j ∈ js, j ∈ vs) ∧ n < sizeLine ∧ ∃ Inv : Nat → List PyData → c.S → Prop, Inv 0 [] g1 ∧
      (∀ i acc g2, i < n → acc.length ≤ i → Inv i acc g2 → PB c tt (f i (wipeR ρ vs)) g2 fun b g3 => if b = true then PV c te (f i (wipeR ρ vs)) g3 (fun e g4 => ∃ d, e = .d d ∧ Inv (i + 1) (acc ++ [d]) g4) else Inv (i + 1) acc g3) ∧
      (∀ acc g2, acc.length ≤ n → Inv n acc g2 → P (.d (.list acc)) g2)) : PV c (tLc wi gt tt te vs) ρ g P := fun σ I H ok en Q k =>
  h σ I H ok en _ fun J n f I1 H1 g1 s1 ok1 W ⟨hj, hn, Iv, i0, turn, fin⟩ D hD => by
    refine ⟨fun i m H' => m = n - i ∧ i ≤ n ∧ ∃ I' g' acc va, Step c I1 H1 g1 I' H' g' ∧ Ok c I' H' g' ∧ I' D = none ∧ ¬ c.M g' D ∧ H' D = some (.lst va) ∧ DpAll c.K I' va acc ∧ acc.length ≤ i ∧ Iv i acc g',
      ⟨n, by simp, Nat.zero_le _, I1, g1, [], [], Step.grow hD, ok1.grow hD, ok1.free hD, fun m => c.mh g1 I1 H1 D ok1.j m hD, upd_same, .nil, Nat.le_refl _, i0⟩, ?_⟩
    rintro i m H' ⟨rfl, hi, I', g', acc, va, s', ok', hID, hMD, hHD, ha, hl, inv⟩
    have hDn : H' D ≠ none := by rw [hHD]; simp
    by_cases hlt : i < n
    · refine .inr ⟨W.go i I' H' g' s'.im ok' hlt, fun H5 => n - (i + 1) < n - i ∧ ∃ I' g' acc va, Step c I1 H1 g1 I' H5 g' ∧ Ok c I' H5 g' ∧ I' D = none ∧ ¬ c.M g' D ∧ H5 D = some (.lst va) ∧ DpAll c.K I' va acc ∧ acc.length ≤ i + 1 ∧ Iv (i + 1) acc g',
        fun H5 q => ⟨n - (i + 1), q.1, rfl, hlt, q.2⟩, fun x H2 hy => ?_⟩
      have en' : EnvOk c.K I' (wipe σ vs) (wipeR ρ vs) := (en.mono (s1.im.trans s'.im)).wipe vs
      refine W.yld i I' H' g' x H2 s'.im ok' hlt hy _ _ en' _ fun L I2 H3 hL s2 ok2 en2 => ?_
      refine ⟨by rw [wipe_setAll (fun p m => hj _ (hL p m)), wipe_wipe fun _ m => m], ?_⟩
      have nM : ∀ {I2 H2 g2}, Step c I' H' g' I2 H2 g2 → ¬ c.M g2 D := fun s m => by
        rcases s.mm D m with q | q
        · exact hMD q
        · exact hDn q
      refine turn i acc g' hlt hl inv _ I2 H3 ok2 en2 _ fun b I3 H4 g3 s3 ok3 p3 => ?_
      cases b with
      | true =>
        rw [if_pos rfl] at p3 ⊢
        refine p3 _ I3 H4 ok3 (en2.mono s3.im) _ fun y I4 H5 g4 e s4 ok4 r4 ⟨d, e1, p4⟩ => ?_
        subst e1
        have sA := (s2.trans s3).trans s4
        have hID4 : I4 D = none := sA.out D _ hHD rfl hID hMD
        have hHD4 : H5 D = some (.lst va) := sA.keep D _ hHD hMD
        have hM4 := nM sA
        have lv : va.length = acc.length := dpAll_len ha
        refine ⟨va, hHD4, by rw [lv]; omega, by omega, I4, g4, acc ++ [d], va ++ [y], ?_, ?_, hID4, hM4, upd_same, dpAll_append (dpAll_mono sA.im _ _ ha) (.cons r4 .nil), by rw [List.length_append]; simp; omega, p4⟩
        · have sB := s'.trans sA
          refine ⟨sB.im, fun a o ho hm => ?_, sB.out, sB.mm, fun a ho => ?_⟩
          · have ne : a ≠ D := fun z => by rw [z, hD] at ho; cases ho
            rw [upd_ne ne]; exact sB.keep a o ho hm
          · have ne : a ≠ D := fun z => ho (by rw [z]; exact hD)
            rw [upd_ne ne]; exact sB.there a ho
        · refine ⟨fun a o ho => ?_, c.jm g4 I4 I4 H5 _ ok4.j (Ex.refl I4) fun a m => upd_ne fun z => hM4 (by rw [← z]; exact m), ok4.out⟩
          have ne : a ≠ D := fun z => by rw [z, hID4] at ho; cases ho
          rw [upd_ne ne]; exact ok4.ex a o ho
      | false =>
        rw [if_neg Bool.false_ne_true] at p3 ⊢
        have sA := s2.trans s3
        exact ⟨by omega, I3, g3, acc, va, s'.trans sA, ok3, sA.out D _ hHD rfl hID hMD, nM sA, sA.keep D _ hHD hMD, dpAll_mono sA.im _ _ ha, by omega, p3⟩
    · have e : i = n := by omega
      subst e
      refine .inl ⟨W.stop i I' H' g' s'.im ok' rfl, ?_⟩
      refine k _ (upd I' D (.lst va)) H' g' (.d (.list acc)) (s1.trans ⟨s'.im.trans (Ex.new hID), s'.keep, fun a o ho ht hI hm => ?_, s'.mm, s'.there⟩) ⟨fun a o ho => ?_, c.jm g' I' _ H' H' ok'.j (Ex.new hID) fun _ _ => rfl, fun a m => ?_⟩ (Dp.lst (.inl (.inl upd_same)) (dpAll_mono (Ex.new hID) _ _ ha)) (fin acc g' hl inv)
      · have ne : a ≠ D := fun z => by rw [z, hD] at ho; cases ho
        rw [upd_ne ne]; exact s'.out a o ho ht hI hm
      · by_cases z : a = D
        · rw [z] at ho ⊢
          rw [upd_same] at ho
          rw [hHD]; exact ho
        · rw [upd_ne z] at ho; exact ok'.ex a o ho
      · have ne : a ≠ D := fun z => hMD (by rw [← z]; exact m)
        rw [upd_ne ne]; exact ok'.out a m
/-- a for -/
theorem ps_for {wi : TI} {gt : TG} {js : List Nat} {tb : TS} {Pn : Rho → c.S → Prop} {Pr : EV → c.S → Prop}
    (h : PIt c wi gt js ρ g fun n f g1 => ∃ Inv : Nat → Rho → c.S → Prop, Inv 0 ρ g1 ∧ (∀ i ρ2 g2, i < n → Inv i ρ2 g2 → PSt c tb (f i ρ2) g2 (fun ρ3 g3 => Inv (i + 1) ρ3 g3) Pr) ∧ (∀ ρ2 g2, Inv n ρ2 g2 → Pn ρ2 g2)) :
    PSt c (tFor wi gt tb) ρ g Pn Pr := fun σ I H ok en D kn kr =>
  h σ I H ok en _ fun J n f I1 H1 g1 s1 ok1 W ⟨Iv, i0, turn, fin⟩ => by
    refine ⟨fun i m σ' H' => m = n - i ∧ i ≤ n ∧ ∃ I' g' ρ', Step c I1 H1 g1 I' H' g' ∧ Ok c I' H' g' ∧ EnvOk c.K I' σ' ρ' ∧ Iv i ρ' g', ⟨n, by simp, Nat.zero_le _, I1, g1, ρ, Step.refl, ok1, en.mono s1.im, i0⟩, ?_⟩
    rintro i m σ' H' ⟨rfl, hi, I', g', ρ', s', ok', en', inv⟩
    by_cases hlt : i < n
    · refine .inr ⟨W.go i I' H' g' s'.im ok' hlt, fun σ5 H5 => ∃ I' g' ρ', Step c I1 H1 g1 I' H5 g' ∧ Ok c I' H5 g' ∧ EnvOk c.K I' σ5 ρ' ∧ Iv (i + 1) ρ' g', fun σ5 H5 q => ⟨n - (i + 1), by omega, rfl, hlt, q⟩, fun x H2 hy => ?_⟩
      refine W.yld i I' H' g' x H2 s'.im ok' hlt hy _ _ en' _ fun L I2 H3 hL s2 ok2 en2 => ?_
      refine turn i ρ' g' hlt inv _ I2 H3 ok2 en2 _ (fun σ4 I4 H4 g4 ρ4 s4 ok4 en4 p4 => ⟨I4, g4, ρ4, s'.trans (s2.trans s4), ok4, en4, p4⟩) fun v I4 H4 g4 e s4 ok4 r4 p4 => kr v I4 H4 g4 e (s1.trans (s'.trans (s2.trans s4))) ok4 r4 p4
    · have e : i = n := by omega
      subst e
      exact .inl ⟨W.stop i I' H' g' s'.im ok' rfl, kn σ' I' H' g' ρ' (s1.trans s') ok' en' (fin ρ' g' inv)⟩
/-- a turn's store of one name -/
def seqR (j : Nat) (es : Nat → Option EV) (i : Nat) (r : Rho) : Rho := match es i with | some e => r.set j (some e) | none => r
theorem seqR_at {j i : Nat} {es : Nat → Option EV} {r : Rho} {e : EV} (h : es i = some e) : seqR j es i r = r.set j (some e) := by unfold seqR; rw [h]
abbrev dsE (ds : List PyData) : Nat → Option EV := fun i => (ds[i]?).map EV.d
abbrev stE (z : Str) : Nat → Option EV := fun i => (z.cps[i]?).map fun n => EV.d (.str ⟨#[n]⟩)
theorem dsR_at {j i : Nat} {ds : List PyData} {r : Rho} {x : PyData} (h : ds[i]? = some x) : seqR j (dsE ds) i r = r.set j (some (.d x)) := seqR_at (by show (ds[i]?).map EV.d = _; rw [h]; rfl)
theorem stR_at {j i : Nat} {z : Str} {r : Rho} {n : Nat} (h : z.cps[i]? = some n) : seqR j (stE z) i r = r.set j (some (.d (.str ⟨#[n]⟩))) := seqR_at (by show (z.cps[i]?).map _ = _; rw [h]; rfl)
/-- over a tuple told as data, one name -/
theorem pit_tup {j : Nat} {P : Nat → (Nat → Rho → Rho) → c.S → Prop} (h : PV c tl ρ g fun e g1 => ∃ ds, e = .d (.tuple ds) ∧ P ds.length (seqR j (dsE ds)) g1) :
    PIt c (iTup c.K tl) (gName j) [j] ρ g P := fun σ I H ok en R k =>
  h σ I H ok en _ fun v I1 H1 g1 e s1 ok1 r1 ⟨ds, e1, p1⟩ => by
    subst e1
    cases r1 with
    | @tup a xs _ hx ax =>
      have hl := dpAll_len ax
      refine ⟨a, rfl, ⟨xs, ok1.ex.seqT hx⟩, k _ ds.length _ I1 H1 g1 s1 ok1 ⟨fun i I H g e ok hn => ⟨xs, ok.ex.seqT (e.seqT hx), by omega⟩, fun i I H g e ok hn => ?_, fun i I H g x H' e ok hn hy σ ρ en Q kq => ?_⟩ p1⟩
      · obtain ⟨v, hv, _⟩ := dpAll_get ax (List.getElem?_eq_getElem hn)
        exact ⟨xs, v, ok.ex.seqT (e.seqT hx), hv⟩
      · obtain ⟨hH, hy⟩ := hy
        subst hH
        have hv := hy xs (ok.ex.seqT (e.seqT hx))
        obtain ⟨v, hv', r⟩ := dpAll_get ax (List.getElem?_eq_getElem hn)
        rw [hv] at hv'
        cases hv'
        refine kq [(j, x)] I H' (by simp) Step.refl ok ?_
        rw [dsR_at (List.getElem?_eq_getElem hn)]
        exact en.set j (e := .d ds[i]) (dp_mono e _ _ r)
theorem pit_lst {j : Nat} {P : Nat → (Nat → Rho → Rho) → c.S → Prop} (h : PV c tl ρ g fun e g1 => ∃ ds, e = .d (.list ds) ∧ P ds.length (seqR j (dsE ds)) g1) :
    PIt c (iList c.K tl) (gName j) [j] ρ g P := fun σ I H ok en R k =>
  h σ I H ok en _ fun v I1 H1 g1 e s1 ok1 r1 ⟨ds, e1, p1⟩ => by
    subst e1
    cases r1 with
    | @lst a xs _ hx ax =>
      have hl := dpAll_len ax
      refine ⟨a, rfl, ⟨xs, ok1.ex.seqL hx⟩, k _ ds.length _ I1 H1 g1 s1 ok1 ⟨fun i I H g e ok hn => ⟨xs, ok.ex.seqL (e.seqL hx), by omega⟩, fun i I H g e ok hn => ?_, fun i I H g x H' e ok hn hy σ ρ en Q kq => ?_⟩ p1⟩
      · obtain ⟨v, hv, _⟩ := dpAll_get ax (List.getElem?_eq_getElem hn)
        exact ⟨xs, v, ok.ex.seqL (e.seqL hx), hv⟩
      · obtain ⟨hH, hy⟩ := hy
        subst hH
        have hv := hy xs (ok.ex.seqL (e.seqL hx))
        obtain ⟨v, hv', r⟩ := dpAll_get ax (List.getElem?_eq_getElem hn)
        rw [hv] at hv'
        cases hv'
        refine kq [(j, x)] I H' (by simp) Step.refl ok ?_
        rw [dsR_at (List.getElem?_eq_getElem hn)]
        exact en.set j (e := .d ds[i]) (dp_mono e _ _ r)
/-- over a text, sign by sign -/
theorem pit_str {j : Nat} {P : Nat → (Nat → Rho → Rho) → c.S → Prop} (h : PV c tl ρ g fun e g1 => ∃ z : Str, e = .d (.str z) ∧ P z.cps.size (seqR j (stE z)) g1) :
    PIt c (iStr tl) (gName j) [j] ρ g P := fun σ I H ok en R k =>
  h σ I H ok en _ fun v I1 H1 g1 e s1 ok1 r1 ⟨z, e1, p1⟩ => by
    subst e1
    cases r1
    refine ⟨z, rfl, k _ z.cps.size _ I1 H1 g1 s1 ok1 ⟨fun i I H g e ok hn => Nat.le_of_eq hn.symm, fun i I H g e ok hn => hn, fun i I H g x H' e ok hn hy σ ρ en Q kq => ?_⟩ p1⟩
    obtain ⟨hH, n, hn', hx⟩ := hy
    subst hH hx
    refine kq [(j, _)] I H' (by simp) Step.refl ok ?_
    rw [stR_at hn']
    exact en.set j (e := .d (.str ⟨#[n]⟩)) (Dp.str _)
/-- over range(n), range(a, b) -/
theorem walk_range {j : Nat} {lo : Int} {n : Nat} {I1 : Hp} : Walk c (Itr lo n) (gName j) [j] n (fun i r => r.set j (some (.d (.int (lo + i))))) I1 :=
  ⟨fun i I H g e ok hn => Nat.le_of_eq hn.symm, fun i I H g e ok hn => hn, fun i I H g x H' e ok hn hy σ ρ en Q kq => by
    obtain ⟨hH, hx⟩ := hy
    subst hH hx
    exact kq [(j, _)] I H' (by simp) Step.refl ok (en.set j (e := .d (.int (lo + i))) (Dp.int _))⟩
theorem pit_rng1 {j : Nat} {ta : TA} {P : Nat → (Nat → Rho → Rho) → c.S → Prop} (h : PAs c ta ρ g fun es g1 => ∃ n : Int, es = [.d (.int n)] ∧ -(2 ^ 62) ≤ n ∧ n < 2 ^ 62 ∧ P n.toNat (fun i r => r.set j (some (.d (.int (0 + i))))) g1) :
    PIt c (iRng1 ta) (gName j) [j] ρ g P := fun σ I H ok en R k =>
  h σ I H ok en _ fun vs I1 H1 g1 es s1 ok1 r1 ⟨n, e1, h1, h2, p1⟩ => by
    subst e1
    obtain ⟨v, e, r⟩ := one_of r1
    subst e
    cases r
    exact ⟨n, rfl, h1, h2, k _ _ _ I1 H1 g1 s1 ok1 walk_range p1⟩
end
end Dl
set_option Elab.async false
set_option linter.all false
set_option maxRecDepth 100000
set_option maxHeartbeats 4000000
namespace Dl
open PySem PySem.Spec PyProof.Rows L2
def ItzM (K : PySem.W.Frag) (a b : Addr) : It where
  go := fun i H => ∃ xs ys x y, SqL K H a xs ∧ SqT K H b ys ∧ xs[i]? = some x ∧ ys[i]? = some y
  yld := fun i H v H' => ∃ T x y, v = V.ref T ∧ H T = none ∧ H' = upd H T (.tup [x, y]) ∧ (∀ l, SqL K H a l → l[i]? = some x) ∧ (∀ l, SqT K H b l → l[i]? = some y)
  stop := fun i H => ∃ xs ys, SqL K H a xs ∧ SqT K H b ys ∧ i = min xs.length ys.length
theorem turn_zipM {P : Program} {w : World} {K : PySem.W.Frag} {elts : List Expr} {kk : Nat} {tpos : Pos} {a b z TI TO i1 i2 : Addr} (S : ZipSep2 z TI TO i1 i2 [i1, a] [i2, b]) (n1 : a ≠ i1) (n2 : b ≠ i2) :
    Turn P w K (.Tuple elts kk tpos) (ItzM K a b) [z, TI, TO, i1, i2] z (fun i h => IsZip h z TI TO .none ∧ IsTupOf2 h TI (.ref i1) (.ref i2) ∧ (∃ p q, IsTupOf2 h TO p q) ∧ h.IsListIter i1 a i ∧ h.IsTupleIter i2 b i) where
  mem := List.mem_cons_self
  obj := fun i h ⟨hz, hI, ⟨p, q, hO⟩, ⟨o1, e1, _, d1⟩, ⟨o2, e2, _, d2⟩⟩ c hc => by
    simp only [List.mem_cons, List.not_mem_nil, or_false] at hc
    rcases hc with e | e | e | e | e <;> subst e
    · exact ⟨_, hz, by intro v q; cases q⟩
    · exact ⟨_, hI, by intro v q; cases q⟩
    · exact ⟨_, hO, by intro v q; cases q⟩
    · exact ⟨o1, e1, by intro v q; rw [d1] at q; cases q⟩
    · exact ⟨o2, e2, by intro v q; rw [d2] at q; cases q⟩
  keep := fun i h h' ⟨hz, hI, ⟨p, q, hO⟩, h1, h2⟩ k =>
    ⟨k z (by simp) _ hz, k TI (by simp) _ hI, ⟨p, q, k TO (by simp) _ hO⟩, h1.at (fun o e => k i1 (by simp) o e), h2.at (fun o e => k i2 (by simp) o e)⟩
  item := by
    rintro X rfl rfl rfl hc i pins s σ H E I hf ⟨hz, hI, hO, h1, h2⟩ ⟨xs, ys, x, y, hqx, hqy, hx, hy⟩
    obtain ⟨its, rv, pl, _⟩ := I.list hqx
    obtain ⟨jts, rw_, pt, _⟩ := I.tuple hqy
    have hh : X.A.handled = none := I.ok.hd hc
    have G := GoesN.zip2 (prog := X.prog) (w := X.w) (A := X.A) (elts := elts) (x1 := kk) (pos := tpos) S (Draws.list (show X.A.in1.handled = none from hh) i1 a n1 its.toArray) (Draws.tuple (show X.A.in1.handled = none from hh) i2 b n2 jts.toArray)
    have li : i < its.length := by have := (List.getElem?_eq_some_iff.mp hx).1; have := rv.length; omega
    have lj : i < jts.length := by have := (List.getElem?_eq_some_iff.mp hy).1; have := rw_.length; omega
    refine thn (G.goes i s (fun v s2 => ∃ x H', Inv X pins σ H' s2 ∧ RelV x v ∧ (ItzM X.K a b).yld i H x H' ∧ (IsZip s2.heap z TI TO .none ∧ IsTupOf2 s2.heap TI (.ref i1) (.ref i2) ∧ (∃ p q, IsTupOf2 s2.heap TO p q) ∧ s2.heap.IsListIter i1 a (i + 1) ∧ s2.heap.IsTupleIter i2 b (i + 1)) ∧ ∀ c ∈ [z, TI, TO, i1, i2], H' c = none) E
      (by simp; omega) ⟨hz, hI, hO, ⟨h1, pl.isList⟩, ⟨h2, pt⟩⟩ ?_) fun r s1 ⟨v, hr, hv⟩ => ⟨v, hr, hv⟩
    rintro v h' tk ⟨T, u1, u2, rfl, hT, hu1, hu2, hTt⟩ ⟨gz, gI, gO, ⟨g1, _⟩, ⟨g2, _⟩⟩ kk' _
    obtain ⟨w1, hw1, r1⟩ := rv.get hx
    obtain ⟨w2, hw2, r2⟩ := rw_.get hy
    have e1 : u1 = w1 := by
      have q : its[i]? = some u1 := by simpa using hu1
      rw [hw1] at q; exact (Option.some.inj q).symm
    have e2 : u2 = w2 := by
      have q : jts[i]? = some u2 := by simpa using hu2
      rw [hw2] at q; exact (Option.some.inj q).symm
    subst e1 e2
    obtain ⟨oT, hoT, hcT, nT, hdT⟩ := hTt
    have new : ObjOk X.prog X.w (upd H T (.tup [x, y])) h' T (.tup [x, y]) := ⟨le_line (show 2 ≤ 1000000 by decide), [u1, u2], .cons r1 (.cons r2 .nil), oT, hoT, hcT, nT, hdT⟩
    refine ⟨.ref T, upd H T (.tup [x, y]), I.turnedNew (ch := [z, TI, TO, i1, i2]) (fun c o hn e => kk' c o (fun m => hn ?_) e) hf hT new, rfl, ⟨T, x, y, rfl, I.hok.fresh hT, rfl, fun l hl => by rw [I.list_inj hl hqx]; exact hx, fun l hl => by rw [I.tuple_inj hl hqy]; exact hy⟩, ⟨gz, gI, gO, g1, g2⟩, fun c m => ?_⟩
    · simp only [List.mem_cons, List.not_mem_nil, or_false] at m ⊢
      rcases m with e | e | e | e <;> simp [e]
    · have q := hf c m
      have lt : c < s.heap.objs.size := by
        obtain ⟨p, r, hO⟩ := hO
        simp only [List.mem_cons, List.not_mem_nil, or_false] at m
        rcases m with e | e | e | e | e <;> subst e
        · exact Heap.lt_size hz
        · exact Heap.lt_size hI
        · exact Heap.lt_size hO
        · obtain ⟨o, e, _⟩ := h1; exact Heap.lt_size e
        · obtain ⟨o, e, _⟩ := h2; exact Heap.lt_size e
      rw [upd_ne (Nat.ne_of_lt (Nat.lt_of_lt_of_le lt hT))]
      exact q.1
  done := by
    rintro X rfl rfl rfl hc i pins s σ H E I hf ⟨hz, hI, hO, h1, h2⟩ ⟨xs, ys, hqx, hqy, hend⟩
    obtain ⟨its, rv, pl, _⟩ := I.list hqx
    obtain ⟨jts, rw_, pt, _⟩ := I.tuple hqy
    have hh : X.A.handled = none := I.ok.hd hc
    have l1 := rv.length
    have l2 := rw_.length
    have G := GoesN.zip2 (prog := X.prog) (w := X.w) (A := X.A) (elts := elts) (x1 := kk) (pos := tpos) S (Draws.list (show X.A.in1.handled = none from hh) i1 a n1 its.toArray) (Draws.tuple (show X.A.in1.handled = none from hh) i2 b n2 jts.toArray)
    have ei : min its.toArray.size jts.toArray.size = i := by simp; omega
    refine G.stops s _ E (by rw [ei]; exact ⟨hz, hI, hO, ⟨h1, pl.isList⟩, ⟨h2, pt⟩⟩) fun h' tk kk' _ => I.turnedL (ch := [z, TI, TO, i1, i2]) (fun c o hn e => kk' c o (fun m => hn ?_) e) hf
    simp only [List.mem_cons, List.not_mem_nil, or_false] at m ⊢
    rcases m with e | e | e | e <;> simp [e]
  self := fun A i s Q E st h => wpAny_pyIter_zip st.1 h
/-- zip(e, e2): two tuples, or a list and a tuple -/
def iZipZ (K : PySem.W.Frag) (ta : TA) : TI := fun σ H R => ta σ H fun vs H1 => ∃ a b xs ys, vs = [V.ref a, V.ref b] ∧ SqT K H1 b ys ∧ ((SqT K H1 a xs ∧ R (RZ.ItzT K a b) H1) ∨ (SqL K H1 a xs ∧ R (ItzM K a b) H1))
theorem pi_zipY {X : Cx} {e e2 : Expr} {ta : TA} {p pos tpos : Pos} {elts : List Expr} {kk : Nat} (hg : Gl X "zip") (hm : X.mg "zip" = none) (ha : PA X [e, e2] ta)
    (q1 : starEach [e, e2] X.env = (false, eval e X.env) :: starEach [e2] X.env := by rfl) (q2 : (backTo pos (starEach [e2] X.env)).any (·.1) = false := by rfl) :
    PI X (.Tuple elts kk tpos) (.Call (.Name "zip" p) [e, e2] [] pos) (iZipZ X.K ta) := ⟨fun pins s σ H R I h =>
  Call_ (ld_blt I hg hm PyProof.Rows.boot_zip (PyProof.Rows.callWith_type1 (thn (ha.run pos pins s σ H _ I h) fun us s1 ⟨vs, H1, I1, r1, a, b, xs, ys, ex, hy, q⟩ => by
    subst ex
    obtain ⟨u1, u2, rfl, r, r'⟩ := vals2 r1
    cases r; cases r'
    obtain ⟨jts, rw_, pt, _⟩ := I1.tuple hy
    have lb : b < s1.heap.objs.size := by obtain ⟨o, e, _⟩ := pt; exact Heap.lt_size e
    have fr : ∀ c ∈ [s1.heap.objs.size + 4, s1.heap.objs.size + 2, s1.heap.objs.size + 3, s1.heap.objs.size, s1.heap.objs.size + 1], FpOk X pins H1 c := fun c m => by
      have le : s1.heap.objs.size ≤ c := by
        simp only [List.mem_cons, List.not_mem_nil, or_false] at m
        rcases m with e | e | e | e | e <;> rw [e] <;> first | exact Nat.le_refl _ | exact Nat.le_add_right _ _
      exact I1.fpOk le (I1.hok.fresh le)
    rcases q with ⟨hx, q⟩ | ⟨hx, q⟩
    · obtain ⟨its, rv, pu, _⟩ := I1.tuple hx
      have la : a < s1.heap.objs.size := by obtain ⟨o, e, _⟩ := pu; exact Heap.lt_size e
      exact RZ.call_zipT pu pt fun h' gz gI gO g1 g2 _ k => wpAny_pyIter_zip gz ⟨_, _, _, _, H1, rfl, I1.kept (t' := s1.toks) k, RZ.turn_zipT (PySem.W.ktu_apart _ a b la lb), ⟨gz, gI, ⟨_, _, gO⟩, g1, g2⟩, fr, q⟩
    · obtain ⟨its, rv, pl, _⟩ := I1.list hx
      refine zip_begins2 (begins_list a its.toArray) (begins_tuple b jts.toArray) pl.isList pt fun h' gz gI gO g1 g2 hsz k => wpAny_pyIter_zip gz ?_
      have la : a < s1.heap.objs.size := pl.lt
      have S := zip_sep2 (N := s1.heap.objs.size) (fp1 := [a]) (fp2 := [b]) (by simpa using la) (by simpa using lb)
      exact ⟨_, _, _, _, H1, rfl, I1.kept (t' := s1.toks) k, turn_zipM S (Nat.ne_of_lt la) (Nat.ne_of_lt (Nat.lt_succ_of_lt lb)), ⟨gz, gI, ⟨_, _, gO⟩, ⟨_, g1, rfl, rfl⟩, ⟨_, g2, rfl, rfl⟩⟩, fr, q⟩) q1 q2))⟩
theorem pi_zipZ {X : Cx} {K : PySem.W.Frag} {e e2 : Expr} {ta : TA} {p pos tpos : Pos} {elts : List Expr} {kk : Nat} (hg : Gl X "zip") (hm : X.mg "zip" = none) (ha : PA X [e, e2] ta)
    (q1 : starEach [e, e2] X.env = (false, eval e X.env) :: starEach [e2] X.env := by rfl) (q2 : (backTo pos (starEach [e2] X.env)).any (·.1) = false := by rfl) (ek : X.K = K := by rfl) :
    PI X (.Tuple elts kk tpos) (.Call (.Name "zip" p) [e, e2] [] pos) (iZipZ K ta) := by subst ek; exact pi_zipY hg hm ha q1 q2
section
variable {c : Ctx} {ρ : Rho} {g : c.S}
/-- the step of a zip's turn: two names -/
def zipR (a b : Nat) (fs : List EV) (ds : List EV) : Nat → Rho → Rho := fun i r => match fs[i]?, ds[i]? with
  | some x, some y => (r.set a (some x)).set b (some y)
  | _, _ => r
theorem zip_store {K : PySem.W.Frag} {I H : Hp} {a b : Nat} {x y : V} {ex ey : EV} {ok : Ok c I H g} {σ : L2.St} {ρ : Rho} {T : Addr} {Q : L2.St → Hp → Prop} (en : EnvOk c.K I σ ρ) (hT : H T = none) (rx : RelE c.K I x ex) (ry : RelE c.K I y ey)
    (kq : ∀ (L : List (Nat × V)) I2 H2, (∀ p ∈ L, p.1 ∈ [a, b]) → Step c I H g I2 H2 g → Ok c I2 H2 g → EnvOk c.K I2 (setAll σ L) ((ρ.set a (some ex)).set b (some ey)) → Q (setAll σ L) H2) :
    gTup c.K 2 (gCons (gName a) (gCons (gName b) gNil)) (.ref T) σ (upd H T (.tup [x, y])) Q :=
  ⟨T, [x, y], rfl, .inl (.inl upd_same), rfl, x, [y], rfl, y, [], rfl, rfl, kq [(a, x), (b, y)] I _ (by simp) (Step.grow hT) (ok.grow hT) ((en.set a rx).set b ry)⟩
/-- zip of a row of raw values and of a tuple told as data -/
theorem pit_zipRT {a b : Nat} {ta : TA} {P : Nat → (Nat → Rho → Rho) → c.S → Prop}
    (h : PAs c ta ρ g fun es g1 => ∃ fs ds, es = [.rl fs, .d (.tuple ds)] ∧ P (min fs.length ds.length) (zipR a b (fs.map .r) (ds.map .d)) g1) :
    PIt c (iZipZ c.K ta) (gTup c.K 2 (gCons (gName a) (gCons (gName b) gNil))) [a, b] ρ g P := fun σ I H ok en R k => by
  refine h σ I H ok en _ ?_
  rintro vs I1 H1 g1 es s1 ok1 r1 ⟨fs, ds, e1, p1⟩
  subst e1
  obtain ⟨v, u, e, ⟨p, ev, hp⟩, ru⟩ := two_of r1
  subst e ev
  cases ru with
  | @tup q ys _ hy ay =>
    have hl := dpAll_len ay
    refine ⟨p, q, fs, ys, rfl, ok1.ex.seqT hy, ?_⟩
    have yl : ∀ i (I : Hp) (H : Hp) (g : c.S) (σ : L2.St) (ρ : Rho) (T : Addr) (x y : V) (Q : L2.St → Hp → Prop), Ex I1 I → Ok c I H g → i < min fs.length ds.length → H T = none → fs[i]? = some x → ys[i]? = some y → EnvOk c.K I σ ρ →
        (∀ (L : List (Nat × V)) I2 H2, (∀ p ∈ L, p.1 ∈ [a, b]) → Step c I H g I2 H2 g → Ok c I2 H2 g → EnvOk c.K I2 (setAll σ L) (zipR a b (fs.map .r) (ds.map .d) i ρ) → Q (setAll σ L) H2) →
        gTup c.K 2 (gCons (gName a) (gCons (gName b) gNil)) (.ref T) σ (upd H T (.tup [x, y])) Q := by
      intro i I H g σ ρ T x y Q e ok hn hT hx hy' en kq
      have hd : i < ds.length := by omega
      obtain ⟨y', hy'', ry⟩ := dpAll_get ay (List.getElem?_eq_getElem hd)
      rw [hy'] at hy''
      cases hy''
      refine zip_store (K := c.K) (ok := ok) en hT (ex := .r x) (ey := .d ds[i]) rfl (dp_mono e _ _ ry) fun L I2 H2 hL s2 ok2 en2 => kq L I2 H2 hL s2 ok2 ?_
      have e2 : zipR a b (fs.map .r) (ds.map .d) i ρ = (ρ.set a (some (.r x))).set b (some (.d ds[i])) := by
        unfold zipR
        rw [List.getElem?_map, List.getElem?_map, hx, List.getElem?_eq_getElem hd]
        rfl
      rw [e2]; exact en2
    have get : ∀ i, i < min fs.length ds.length → ∃ x y, fs[i]? = some x ∧ ys[i]? = some y := fun i hi => ⟨fs[i]'(by omega), ys[i]'(by omega), List.getElem?_eq_getElem _, List.getElem?_eq_getElem _⟩
    rcases hp with hp | hp
    · refine .inr ⟨ok1.ex.seqL hp, k _ _ _ I1 H1 g1 s1 ok1 ⟨fun i I H g e ok hn => ?_, fun i I H g e ok hn => ?_, fun i I H g x H' e ok hn hY σ ρ en Q kq => ?_⟩ p1⟩
      · by_cases hi : i = min fs.length ys.length
        · exact ⟨fs, ys, ok.ex.seqL (e.seqL hp), ok.ex.seqT (e.seqT hy), hi⟩
        · exact absurd (by omega) hi
      · obtain ⟨x, y, hx, hy'⟩ := get i hn
        exact ⟨fs, ys, x, y, ok.ex.seqL (e.seqL hp), ok.ex.seqT (e.seqT hy), hx, hy'⟩
      · obtain ⟨T, x', y', ev, hT, eH, h1, h2⟩ := hY
        subst ev eH
        exact yl i I H g σ ρ T x' y' Q e ok hn hT (h1 fs (ok.ex.seqL (e.seqL hp))) (h2 ys (ok.ex.seqT (e.seqT hy))) en kq
    · refine .inl ⟨ok1.ex.seqT hp, k _ _ _ I1 H1 g1 s1 ok1 ⟨fun i I H g e ok hn => ⟨fs, ys, ok.ex.seqT (e.seqT hp), ok.ex.seqT (e.seqT hy), by omega⟩, fun i I H g e ok hn => ?_, fun i I H g x H' e ok hn hY σ ρ en Q kq => ?_⟩ p1⟩
      · obtain ⟨x, y, hx, hy'⟩ := get i hn
        exact ⟨fs, ys, x, y, ok.ex.seqT (e.seqT hp), ok.ex.seqT (e.seqT hy), hx, hy'⟩
      · obtain ⟨T, x', y', ev, hT, eH, h1, h2⟩ := hY
        subst ev eH
        exact yl i I H g σ ρ T x' y' Q e ok hn hT (h1 fs (ok.ex.seqT (e.seqT hp))) (h2 ys (ok.ex.seqT (e.seqT hy))) en kq
end
end Dl
set_option Elab.async false
set_option linter.all false
set_option maxRecDepth 100000
set_option maxHeartbeats 4000000
namespace L2
open PySem PySem.Spec PyProof.Rows
/-- a def that is called by its name -/
structure Def (P : Program) (w : World) (K : PySem.W.Frag) (mg : Str → Option Value) (base : Heap) (k : Nat) (x : Str) (f : Addr) (fd : FuncData) (ps : List Str) (sp : Sp) : Prop where
  ok : FnOk P w K mg base CX0 k f fd ps sp
  at_ : mg x = some (.ref f)
  kp : PySem.W.keepIn K (.ref f) = true
  bd : Binds K fd ps []
end L2
namespace Dl
open PySem PySem.Spec PyProof.Rows L2
/-- the built-in names are the built-ins' -/
structure Blt (mg : Str → Option Value) : Prop where
  isinstance_ : mg "isinstance" = none
  len_ : mg "len" = none
  all_ : mg "all" = none
  range_ : mg "range" = none
  zip_ : mg "zip" = none
  int_ : mg "int" = none
  str_ : mg "str" = none
  bool_ : mg "bool" = none
  tuple_ : mg "tuple" = none
  list_ : mg "list" = none
  abs_ : mg "abs" = none
  max_ : mg "max" = none
  enumerate_ : mg "enumerate" = none
  sorted_ : mg "sorted" = none
  sum_ : mg "sum" = none
  min_ : mg "min" = none
  any_ : mg "any" = none
  repr_ : mg "repr" = none
  ord_ : mg "ord" = none
  dict_ : mg "dict" = none
  set_ : mg "set" = none
  ValueError_ : mg "ValueError" = none
abbrev FT := (c : Ctx) → c.S → List EV → (EV → c.S → Prop) → Prop
/-- a promise about n arguments -/
abbrev FN (n : Nat) (F : FT) : FT := fun c g es P => es.length = n ∧ F c g es P
theorem paired_len {α β : Type} {R : α → β → Prop} : ∀ {xs : List α} {ys : List β}, Paired R xs ys → xs.length = ys.length
  | _, _, .nil => rfl
  | _, _, .cons _ t => by simp [paired_len t]
theorem lenF {K : PySem.W.Frag} {F : FT} {vs : List V} {H : Hp} {Q : VK} {E : XK} {n : Nat} (h : SpF K F vs H Q E) (l : ∀ c g es P, F c g es P → es.length = n) : vs.length = n := by
  obtain ⟨c, I, g, es, P, _, _, r, hF, _⟩ := h
  rw [paired_len r]; exact l c g es P hF
def startR (n : Nat) (es : List EV) : Rho := es.map some ++ List.replicate (n - es.length) none
theorem paired_get {K : PySem.W.Frag} {I : Hp} : ∀ {vs : List V} {es : List EV} {i : Nat} {e : EV}, Paired (RelE K I) vs es → es[i]? = some e → ∃ v, vs[i]? = some v ∧ RelE K I v e
  | _, _, i, e, .nil, h => by simp at h
  | _, _, 0, e, .cons r _, h => by simp at h; subst h; exact ⟨_, rfl, r⟩
  | _, _, i + 1, e, .cons _ t, h => by
    obtain ⟨v, a, b⟩ := paired_get (i := i) t (by simpa using h)
    exact ⟨v, by simpa using a, b⟩
theorem env_start {K : PySem.W.Frag} {I : Hp} {N : List Str} {vs : List V} {es : List EV} (r : Paired (RelE K I) vs es) : EnvOk K I (L2.start N vs) (startR N.length es) := by
  have hl := paired_len r
  refine ⟨by simp [L2.start, startR, hl], fun i e h => ?_⟩
  unfold startR at h
  unfold L2.start
  by_cases hi : i < es.length
  · rw [List.getElem?_append_left (by simpa using hi)] at h
    rw [List.getElem?_append_left (by simp [hl, hi])]
    rw [List.getElem?_map] at h ⊢
    cases q : es[i]? with
    | none => rw [q] at h; cases h
    | some e' =>
      rw [q] at h
      cases h
      obtain ⟨v, a, b⟩ := paired_get r q
      exact ⟨v, by rw [a]; rfl, b⟩
  · rw [List.getElem?_append_right (by simpa using Nat.le_of_not_lt hi)] at h
    rw [List.getElem?_replicate] at h
    split at h <;> cases h
theorem body_run {t : TS} {N : List Str} {vs : List V} {H I : Hp} {Q : VK} {c : Ctx} {g : c.S} {es : List EV} {P : EV → c.S → Prop} (ok : Ok c I H g) (r : Paired (RelE c.K I) vs es) (k : End c I H g P Q)
    (h : PSt c t (startR N.length es) g (fun _ g' => P (.d .none) g') P) : t { nx := fun _ H' => Q .non H', rt := Q } (L2.start N vs) H :=
  h _ I H ok (env_start r) _ (fun σ' I' H' g' ρ' s' ok' en' p => k _ I' H' g' (.d .none) s' ok' Dp.non p) k
/-- a judge: told data in, a flag out -/
abbrev FJ (pre : PyData → Bool) (p : PyData → Bool) : FT := FN 1 fun c g es P => ∃ d, es = [.d d] ∧ pre d = true ∧ P (.d (.bool (p d))) g
def any' : PyData → Bool := fun _ => true
def isIntP : PyData → Bool | .int _ => true | _ => false
theorem int_of {d : PyData} (h : isIntP d = true) : ∃ i, d = .int i := by cases d <;> first | exact ⟨_, rfl⟩ | cases h
def isCount : PyData → Bool | .int i => decide (0 ≤ i) | _ => false
def isBtw (a b : Int) : PyData → Bool | .int i => decide (a ≤ i) && decide (i ≤ b) | _ => false
def isTupN (n : Int) : PyData → Bool | .tuple ds => decide ((ds.length : Int) = n) | _ => false
abbrev F_is_integer : FT := FJ any' isIntP
abbrev F_is_count : FT := FJ any' isCount
abbrev F_is_between : FT := FN 3 fun c g es P => ∃ d a b, es = [.d d, .d (.int a), .d (.int b)] ∧ P (.d (.bool (isBtw a b d))) g
abbrev F_is_tuple_of : FT := FN 2 fun c g es P => ∃ d n, es = [.d d, .d (.int n)] ∧ P (.d (.bool (isTupN n d))) g
section
variable {c : Ctx} {g : c.S} {P : EV → c.S → Prop}
theorem use_FJ {pre p : PyData → Bool} {d : PyData} (h : pre d = true) (k : P (.d (.bool (p d))) g) : FJ pre p c g [.d d] P := ⟨rfl, d, rfl, h, k⟩
theorem use_is_between {d : PyData} {a b : Int} (k : P (.d (.bool (isBtw a b d))) g) : F_is_between c g [.d d, .d (.int a), .d (.int b)] P := ⟨rfl, d, a, b, rfl, k⟩
theorem use_is_tuple_of {d : PyData} {n : Int} (k : P (.d (.bool (isTupN n d))) g) : F_is_tuple_of c g [.d d, .d (.int n)] P := ⟨rfl, d, n, rfl, k⟩
theorem fin' {x y : PyData} (k : P (.d x) g) (e : x = y) : P (.d y) g := e ▸ k
theorem fin {x y : Bool} (k : P (.d (.bool x)) g) (e : x = y) : P (.d (.bool y)) g := e ▸ k
end
end Dl
set_option Elab.async false
set_option linter.all false
set_option maxRecDepth 100000
set_option maxHeartbeats 4000000
namespace Dl
open PySem PySem.Spec PyProof.Rows L2
section
variable {c : Ctx} {ρ : Rho} {g : c.S} {P : EV → c.S → Prop} {te ta tb tl : TE} {wi : TI} {gt : TG} {js vs : List Nat}
theorem map_range_succ {α : Type} (v : Nat → α) (i : Nat) : (List.range i).map v ++ [v i] = (List.range (i + 1)).map v := by rw [List.range_succ, List.map_append]; rfl
/-- a comprehension whose items are told by their place -/
theorem pv_lcM (h : PIt c wi gt js ρ g fun n f g1 => (∀ j ∈ js, j ∈ vs) ∧ n < sizeLine ∧ ∃ v : Nat → PyData, (∀ i, i < n → PV c te (f i (wipeR ρ vs)) g1 fun e g2 => e = .d (v i) ∧ g2 = g1) ∧ P (.d (.list ((List.range n).map v))) g1) :
    PV c (tLc wi gt tYes te vs) ρ g P := by
  refine pv_lc fun σ I H ok en R k => h σ I H ok en R fun J n f I1 H1 g1 s1 ok1 W ⟨hj, hn, v, hv, hp⟩ => k J n f I1 H1 g1 s1 ok1 W ⟨hj, hn, fun i acc g2 => acc = (List.range i).map v ∧ g2 = g1, ⟨rfl, rfl⟩, ?_, ?_⟩
  · rintro i acc g2 hi _ ⟨rfl, rfl⟩
    refine fun σ I H ok en Q kq => kq true I H g2 Step.refl ok ?_
    dsimp only
    rw [if_pos rfl]
    exact (hv i hi).imp fun e g3 ⟨e1, e2⟩ => ⟨v i, e1, map_range_succ v i, e2⟩
  · rintro acc g2 _ ⟨rfl, rfl⟩
    exact hp
/-- the same with a test -/
theorem pv_lcF {tt : TT} (h : PIt c wi gt js ρ g fun n f g1 => (∀ j ∈ js, j ∈ vs) ∧ n < sizeLine ∧ ∃ (q : Nat → Bool) (v : Nat → PyData), (∀ i, i < n → PB c tt (f i (wipeR ρ vs)) g1 fun b g2 => b = q i ∧ g2 = g1 ∧ (q i = true → PV c te (f i (wipeR ρ vs)) g1 fun e g2 => e = .d (v i) ∧ g2 = g1)) ∧ P (.d (.list (((List.range n).filter q).map v))) g1) :
    PV c (tLc wi gt tt te vs) ρ g P := by
  refine pv_lc fun σ I H ok en R k => h σ I H ok en R fun J n f I1 H1 g1 s1 ok1 W ⟨hj, hn, q, v, hv, hp⟩ => k J n f I1 H1 g1 s1 ok1 W ⟨hj, hn, fun i acc g2 => acc = ((List.range i).filter q).map v ∧ g2 = g1, ⟨rfl, rfl⟩, ?_, ?_⟩
  · rintro i acc g2 hi _ ⟨rfl, rfl⟩
    refine (hv i hi).imp ?_
    rintro b g3 ⟨rfl, rfl, hq⟩
    cases e : q i with
    | true =>
      dsimp only
      rw [if_pos rfl]
      exact (hq e).imp fun e' g3 ⟨e1, e2⟩ => ⟨v i, e1, by rw [List.range_succ, List.filter_append, List.map_append]; simp [e], e2⟩
    | false =>
      dsimp only
      rw [if_neg Bool.false_ne_true]
      exact ⟨by rw [List.range_succ, List.filter_append, List.map_append]; simp [e], rfl⟩
  · rintro acc g2 _ ⟨rfl, rfl⟩
    exact hp
/-- all([..]) -/
theorem pv_all (h : PIt c wi gt js ρ g fun n f g1 => (∀ j ∈ js, j ∈ vs) ∧ n < sizeLine ∧ ∃ q : Nat → Bool, (∀ i, i < n → PV c te (f i (wipeR ρ vs)) g1 fun e g2 => e = .d (.bool (q i)) ∧ g2 = g1) ∧ P (.d (.bool ((List.range n).all q))) g1) :
    PV c (tCB (rAll c.K) (tCons (tLc wi gt tYes te vs) tNil)) ρ g P := by
  refine pv_cb (pas_cons (pv_lcM fun σ I H ok en R k => h σ I H ok en R fun J n f I1 H1 g1 s1 ok1 W ⟨hj, hn, q, hv, hp⟩ => k J n f I1 H1 g1 s1 ok1 W ⟨hj, hn, fun i => .bool (q i), hv, pas_nil ?_⟩))
  have e : (List.range n).map (fun i => PyData.bool (q i)) = ((List.range n).map q).map .bool := by rw [List.map_map]; rfl
  rw [e]
  refine oc_all ?_
  have e2 : ((List.range n).map q).all id = (List.range n).all q := by rw [List.all_map]; rfl
  rw [e2]; exact hp
def intsD (a b : Int) : List PyData := (List.range (b - a).toNat).map fun i => .int (a + (i : Nat))
theorem pv_listRg2 (h : PV c ta ρ g fun x g1 => PV c tb ρ g1 fun y g2 => ∃ i j, x = .d (.int i) ∧ y = .d (.int j) ∧ RgOk i j ∧ P (.d (.list (intsD i j))) g2) : PV c (tLstRg (tRg2 ta tb)) ρ g P := fun σ I H ok en Q k =>
  h σ I H ok en _ fun v I1 H1 g1 x s1 ok1 r1 p1 => p1 σ I1 H1 ok1 (en.mono s1.im) _ fun u I2 H2 g2 y s2 ok2 r2 ⟨i, j, e1, e2, hr, p2⟩ => by
    subst e1 e2
    cases r1; cases r2
    refine ⟨i, j, rfl, rfl, hr, fun q hq => k _ (upd I2 q (.lst (rgV i j))) _ g2 (.d (.list (intsD i j))) ((s1.trans s2).trans (Step.new ok2 hq)) (ok2.new hq) (Dp.lst (.inl (.inl upd_same)) ?_) p2⟩
    have e : intsD i j = ((List.range (j - i).toNat).map fun n => (i + (n : Nat) : Int)).map .int := by unfold intsD; rw [List.map_map]; rfl
    have e' : rgV i j = ((List.range (j - i).toNat).map fun n => (i + (n : Nat) : Int)).map V.int := by unfold rgV; rw [List.map_map]; rfl
    rw [e, e']
    exact dpAll_ofInts _
theorem o_isntB {a b : Bool} (p : P (.d (.bool (!decide (a = b)))) g) : O2 c rNotB (.d (.bool a)) (.d (.bool b)) g P := fun I H xv yv ok rx ry Q k => by
  cases rx; cases ry
  exact ⟨a, b, rfl, rfl, k.here (e := .d (.bool _)) ok (Dp.bl _) p⟩
/-- a tuple of names, of a tuple told as data: two or three -/
theorem ps_par2 {i j : Nat} {tl : TA} {Pn : Rho → c.S → Prop} {Pr : EV → c.S → Prop} (h : PAs c tl ρ g fun es g1 => ∃ x y, es = [x, y] ∧ Pn ((ρ.set i (some x)).set j (some y)) g1) : PSt c (tPar i j tl) ρ g Pn Pr := fun σ I H ok en D kn kr =>
  h σ I H ok en _ fun vs I1 H1 g1 es s1 ok1 r1 ⟨x, y, e1, p1⟩ => by
    subst e1
    obtain ⟨v, u, e, r, r'⟩ := two_of r1
    exact ⟨v, u, e, kn _ I1 H1 g1 _ s1 ok1 (((en.mono s1.im).set i r).set j r') p1⟩
theorem ps_par3' {i j l : Nat} {tl : TA} {Pn : Rho → c.S → Prop} {Pr : EV → c.S → Prop} (h : PAs c tl ρ g fun es g1 => ∃ x y z, es = [x, y, z] ∧ Pn (((ρ.set i (some x)).set j (some y)).set l (some z)) g1) : PSt c (tPar3 i j l tl) ρ g Pn Pr := fun σ I H ok en D kn kr =>
  h σ I H ok en _ fun vs I1 H1 g1 es s1 ok1 r1 ⟨x, y, z, e1, p1⟩ => by
    subst e1
    cases r1 with
    | cons r r1 =>
      obtain ⟨v, u, e, r', r''⟩ := two_of r1
      subst e
      exact ⟨_, _, _, rfl, kn _ I1 H1 g1 _ s1 ok1 ((((en.mono s1.im).set i r).set j r').set l r'') p1⟩
theorem ps_un3 {i j l : Nat} {Pn : Rho → c.S → Prop} {Pr : EV → c.S → Prop} (h : PV c te ρ g fun e g1 => ∃ x y z, e = .d (.tuple [x, y, z]) ∧ Pn (((ρ.set i (some (.d x))).set j (some (.d y))).set l (some (.d z))) g1) :
    PSt c (tAsg te (gTup c.K 3 (gCons (gName i) (gCons (gName j) (gCons (gName l) gNil))))) ρ g Pn Pr := fun σ I H ok en D kn kr =>
  h σ I H ok en _ fun v I1 H1 g1 e s1 ok1 r1 ⟨x, y, z, e1, p1⟩ => by
    subst e1
    cases r1 with
    | @tup a xs _ hx ax =>
      cases ax with
      | cons h1 ax =>
        cases ax with
        | cons h2 ax =>
          cases ax with
          | cons h3 ax =>
            cases ax
            exact ⟨a, _, rfl, ok1.ex.seqT hx, rfl, _, _, rfl, _, _, rfl, _, _, rfl, rfl, kn _ I1 H1 g1 _ s1 ok1 ((((en.mono s1.im).set i (e := .d x) h1).set j (e := .d y) h2).set l (e := .d z) h3) p1⟩
end
def isNumber : PyData → Bool | .int i => decide (1 ≤ i) | _ => false
def isClient : PyData → Bool := isBtw 1 9
def lows : Str := "abcdefghijklmnopqrstuvwxyz"
def isName : PyData → Bool | .str x => decide (1 ≤ (x.length : Int)) && (decide ((x.length : Int) ≤ 8) && x.cps.toList.all fun n => decide (n ∈ lows.cps.toList)) | _ => false
def isSign (n : Nat) : Bool := decide (32 ≤ n) && decide (n ≤ 126)
def isText : PyData → Bool | .str x => decide ((x.length : Int) ≤ 96) && x.cps.toList.all isSign | _ => false
def isStamp : PyData → Bool
  | .tuple [.int a, .int b, .int n] => decide (0 ≤ a) && decide (0 ≤ b) && decide (0 ≤ n) && ((decide (a = 0) && decide (b = 0) && decide (n = 0)) || (decide (1 ≤ a) && (decide (1 ≤ b) && decide (b ≤ 9)) && decide (1 ≤ n)))
  | _ => false
def isBase : PyData → Bool | .none => true | d => isStamp d
def isWord : PyData → Bool | .tuple (.str _ :: _) => true | _ => false
def allP : List PyData → List (PyData → Bool) → Bool
  | [], [] => true
  | d :: ds, p :: ps => p d && allP ds ps
  | _, _ => false
theorem allP_len : ∀ {ds : List PyData} {ps : List (PyData → Bool)}, allP ds ps = true → ds.length = ps.length
  | [], [], _ => rfl
  | d :: ds, p :: ps, h => by
    rw [allP, Bool.and_eq_true] at h
    simp [allP_len h.2]
  | [], _ :: _, h => by simp [allP] at h
  | _ :: _, [], h => by simp [allP] at h
/-- the i-th judge's word of the i-th item -/
def judgeAt (ps : List (PyData → Bool)) (ds : List PyData) (i : Nat) : Bool := match ps[i]?, ds[i]? with | some p, some d => p d | _, _ => true
theorem allP_range : ∀ {ds : List PyData} {ps : List (PyData → Bool)}, ds.length = ps.length → (List.range (min ps.length ds.length)).all (judgeAt ps ds) = allP ds ps
  | [], [], _ => rfl
  | d :: ds, p :: ps, h => by
    have h' : ds.length = ps.length := by simpa using h
    have e : min (p :: ps).length (d :: ds).length = min ps.length ds.length + 1 := by simp only [List.length_cons]; omega
    rw [e, List.range_succ_eq_map, List.all_cons, List.all_map, allP, ← allP_range h']
    rfl
  | [], _ :: _, h => by simp at h
  | _ :: _, [], h => by simp at h
def ltAt (ds : List PyData) (i : Nat) : Bool := match ds[i]?, ds[i + 1]? with | some a, some b => PySem.W.dataLt a b | _, _ => false
def asc (ds : List PyData) : Bool := (List.range (ds.length - 1)).all (ltAt ds)
def isRow (ps : List (PyData → Bool)) : PyData → Bool | .tuple xs => allP xs ps | _ => false
def cutT (n : Nat) : PyData → PyData | .tuple xs => .tuple (xs.take n) | d => d
def areRows (ps : List (PyData → Bool)) (n : Nat) : PyData → Bool | .tuple rows => rows.all (isRow ps) && asc (rows.map (cutT n)) | _ => false
abbrev F_bare_sheet : FT := FN 0 fun c g es P => es = [] ∧ P (.d (.tuple [.int 0, .int 0, .tuple []])) g
abbrev F_are_ascending : FT := FN 1 fun c g es P => ∃ ds, (es = [.d (.list ds)] ∨ es = [.d (.tuple ds)]) ∧ ds.length ≤ 1000000 ∧ (∀ i a b, ds[i]? = some a → ds[i + 1]? = some b → noD a = true ∧ noD b = true ∧ PySem.W.alike a b = true ∧ a ≠ .none ∧ min a.depth b.depth ≤ 60) ∧ P (.d (.bool (asc ds))) g
abbrev Tab := Addr → Option (PyData → Bool)
def Judges (tab : Tab) (fs : List V) (ps : List (PyData → Bool)) : Prop := Paired (fun f p => ∃ a, f = V.ref a ∧ tab a = some p) fs ps
abbrev F_are_all (tab : Tab) : FT := FN 2 fun c g es P => ∃ ds fs ps, es = [.d (.tuple ds), .rl fs] ∧ Judges tab fs ps ∧ fit (.tuple ds) = true ∧ P (.d (.bool (allP ds ps))) g
def RowsOk (ps : List (PyData → Bool)) (n : Nat) : Prop := n ≤ ps.length ∧ 1 ≤ n ∧ ∀ x y, allP x ps = true → allP y ps = true → PySem.W.alike (.tuple (x.take n)) (.tuple (y.take n)) = true ∧ (PyData.tuple (x.take n)).depth ≤ 60
abbrev F_are_rows (tab : Tab) : FT := FN 3 fun c g es P => ∃ d fs ps n, es = [.d d, .rl fs, .d (.int (n : Nat))] ∧ Judges tab fs ps ∧ fit d = true ∧ RowsOk ps n ∧ P (.d (.bool (areRows ps n d))) g
/-- the promise that goes with the address of a judge -/
def judgeS (K : PySem.W.Frag) (tab : Tab) : Addr → Option Sp := fun a => (tab a).map fun p => SpF K (FJ fit p)
abbrev editTests : Str → Option (List (PyData → Bool)) := fun w =>
  if ("put" : Str) = w then some [isText] else if ("splice" : Str) = w then some [isCount, isCount, isText] else if ("remove" : Str) = w then some [] else if ("take" : Str) = w then some [isName] else
  if ("adopt" : Str) = w then some [isClient, isNumber] else if ("drop" : Str) = w then some [isClient, isNumber] else none
def byWord (tests : Str → Option (List (PyData → Bool))) : PyData → Bool
  | .tuple (.str w :: r) => (match tests w with | some ps => allP r ps | none => false)
  | _ => false
def isEdit : PyData → Bool := byWord editTests
theorem str_of {d : PyData} (h : isStr d = true) : ∃ x, d = .str x := by cases d <;> first | exact ⟨_, rfl⟩ | cases h
theorem tup_of {d : PyData} (h : isTup d = true) : ∃ x, d = .tuple x := by cases d <;> first | exact ⟨_, rfl⟩ | cases h
theorem lt_line {n : Nat} (h : n ≤ 1000000) : n < sizeLine := Nat.lt_of_le_of_lt h (by rw [sizeLine_eq]; decide)
theorem pv_one {c : Ctx} {ρ : Rho} {g : c.S} {te : TE} {P : EV → c.S → Prop} (h : PV c te ρ g P) : PV c te ρ g P := h
theorem sign_lo (n : Nat) : (!decide ((⟨#[n]⟩ : Str).cps.toList < (Str.ofString " ").cps.toList)) = decide (32 ≤ n) := by
  have e : (Str.ofString " ").cps.toList = [32] := by decide +kernel
  rw [e]
  have : (([n] : List Nat) < [32]) ↔ n < 32 := by rw [List.cons_lt_cons_iff]; simp
  by_cases h : n < 32
  · rw [decide_eq_true (this.mpr h), decide_eq_false (by omega)]; rfl
  · rw [decide_eq_false (fun q => h (this.mp q)), decide_eq_true (by omega)]; rfl
theorem sign_hi (n : Nat) : (!decide ((Str.ofString "~").cps.toList < (⟨#[n]⟩ : Str).cps.toList)) = decide (n ≤ 126) := by
  have e : (Str.ofString "~").cps.toList = [126] := by decide +kernel
  rw [e]
  have : (([126] : List Nat) < [n]) ↔ 126 < n := by rw [List.cons_lt_cons_iff]; simp
  by_cases h : 126 < n
  · rw [decide_eq_true (this.mpr h), decide_eq_false (by omega)]; rfl
  · rw [decide_eq_false (fun q => h (this.mp q)), decide_eq_true (by omega)]; rfl
theorem tup3_of {d : PyData} (h : isTupN 3 d = true) : ∃ a b n, d = .tuple [a, b, n] := by
  cases d with
  | tuple xs =>
    have hl : (xs.length : Int) = 3 := of_decide_eq_true h
    match xs, hl with
    | [a, b, n], _ => exact ⟨a, b, n, rfl⟩
    | [], h => simp at h
    | [_], h => simp at h
    | [_, _], h => simp at h
    | _ :: _ :: _ :: _ :: _, h => simp at h; omega
  | _ => cases h
theorem stamp_not3 {d : PyData} (h : isTupN 3 d = false) : false = isStamp d := by
  cases e : isStamp d with
  | false => rfl
  | true =>
    unfold isStamp at e
    split at e
    · cases h
    · cases e
/-- a question put to the i-th item -/
def itemAt (xs : List PyData) (q : PyData → Bool) (i : Nat) : Bool := match xs[i]? with | some d => q d | none => true
theorem itemAt_of {xs : List PyData} {q : PyData → Bool} {i : Nat} {x : PyData} (h : xs[i]? = some x) : itemAt xs q i = q x := by unfold itemAt; rw [h]
theorem itemAt_all (xs : List PyData) (q : PyData → Bool) : (List.range xs.length).all (itemAt xs q) = xs.all q := by
  rw [Bool.eq_iff_iff, List.all_eq_true, List.all_eq_true]
  constructor
  · intro h x hx
    obtain ⟨i, hi, e⟩ := List.getElem_of_mem hx
    have := h i (List.mem_range.mpr hi)
    rw [itemAt_of (List.getElem?_eq_getElem hi), e] at this
    exact this
  · intro h i hi
    have hi' := List.mem_range.mp hi
    rw [itemAt_of (List.getElem?_eq_getElem hi')]
    exact h _ (List.getElem_mem hi')
theorem stamp_no {a b n : PyData} (h : [a, b, n].all isCount = false) : false = isStamp (.tuple [a, b, n]) := by
  cases e : isStamp (.tuple [a, b, n]) with
  | false => rfl
  | true =>
    unfold isStamp at e
    split at e
    · rename_i x y z w
      have q := PyData.tuple.inj w
      simp only [List.cons.injEq, and_true] at q
      obtain ⟨rfl, rfl, rfl⟩ := q
      simp only [Bool.and_eq_true] at e
      have : [PyData.int x, PyData.int y, PyData.int z].all isCount = true := by
        simp only [List.all_cons, List.all_nil, isCount, Bool.and_true, Bool.and_eq_true]
        exact ⟨e.1.1.1, e.1.1.2, e.1.2⟩
      rw [this] at h; cases h
    · cases e
theorem count_of {d : PyData} (h : isCount d = true) : ∃ i, d = .int i ∧ 0 ≤ i := by
  cases d with
  | int i => exact ⟨i, rfl, of_decide_eq_true h⟩
  | _ => cases h
theorem counts3 {a b n : PyData} (h : (isCount a && isCount b && isCount n) = true) : ∃ i j k, a = .int i ∧ b = .int j ∧ n = .int k ∧ 0 ≤ i ∧ 0 ≤ j ∧ 0 ≤ k := by
  simp only [Bool.and_eq_true] at h
  obtain ⟨i, e1, h1⟩ := count_of h.1.1
  obtain ⟨j, e2, h2⟩ := count_of h.1.2
  obtain ⟨k, e3, h3⟩ := count_of h.2
  exact ⟨i, j, k, e1, e2, e3, h1, h2, h3⟩
theorem eqv3 {i j k : Int} : PyData.eqv (.tuple [.int i, .int j, .int k]) (.tuple [.int 0, .int 0, .int 0]) = (decide (i = 0) && (decide (j = 0) && decide (k = 0))) := by
  simp only [PyData.eqv, PyData.eqvAll, Bool.and_true]
  rfl
theorem stamp_first {i j k : Int} (h : PyData.eqv (.tuple [.int i, .int j, .int k]) (.tuple [.int 0, .int 0, .int 0]) = true) : true = isStamp (.tuple [.int i, .int j, .int k]) := by
  rw [eqv3] at h
  simp only [Bool.and_eq_true, decide_eq_true_eq] at h
  obtain ⟨rfl, rfl, rfl⟩ := h
  rfl
theorem stamp_eq {i j k : Int} (hi : 0 ≤ i) (hj : 0 ≤ j) (hk : 0 ≤ k) (h : PyData.eqv (.tuple [.int i, .int j, .int k]) (.tuple [.int 0, .int 0, .int 0]) = false) : isStamp (.tuple [.int i, .int j, .int k]) = (isNumber (.int i) && isClient (.int j) && isNumber (.int k)) := by
  rw [eqv3] at h
  simp only [isStamp, isNumber, isClient, isBtw, decide_eq_true hi, decide_eq_true hj, decide_eq_true hk, Bool.true_and, Bool.and_assoc, h, Bool.false_or]
/-- a question put to the i-th sign -/
def signAt (x : Str) (q : Nat → Bool) (i : Nat) : Bool := match x.cps[i]? with | some n => q n | none => true
theorem signAt_all (x : Str) (q : Nat → Bool) : (List.range x.cps.size).all (signAt x q) = x.cps.toList.all q := by
  rw [Bool.eq_iff_iff, List.all_eq_true, List.all_eq_true]
  constructor
  · intro h n hn
    obtain ⟨i, hi, e⟩ := List.getElem_of_mem hn
    have hi' : i < x.cps.size := by simpa using hi
    have := h i (List.mem_range.mpr hi')
    have e2 : x.cps[i]? = some n := by rw [← e]; simp [hi']
    rw [signAt, e2] at this
    exact this
  · intro h i hi
    have hi' := List.mem_range.mp hi
    rw [signAt, Array.getElem?_eq_getElem hi']
    exact h _ (by simp)
section
variable {c : Ctx} {ρ : Rho} {g : c.S} {P : EV → c.S → Prop} {te tl : TE} {vs : List Nat} {j : Nat}
def mapAt (v : PyData → PyData) (ds : List PyData) (i : Nat) : PyData := match ds[i]? with | some d => v d | none => .none
theorem mapAt_of {v : PyData → PyData} {ds : List PyData} {i : Nat} {x : PyData} (h : ds[i]? = some x) : mapAt v ds i = v x := by unfold mapAt; rw [h]
theorem mapAt_map (v : PyData → PyData) (ds : List PyData) : (List.range ds.length).map (mapAt v ds) = ds.map v := by
  apply List.ext_getElem (by simp)
  intro i h1 h2
  have hi : i < ds.length := by simpa using h1
  simp [mapAt, List.getElem?_eq_getElem hi]
theorem filterAt_map (q : PyData → Bool) (v : PyData → PyData) (ds : List PyData) : ((List.range ds.length).filter (itemAt ds q)).map (mapAt v ds) = (ds.filter q).map v := by
  induction ds with
  | nil => rfl
  | cons d ds ih =>
    rw [List.length_cons, List.range_succ_eq_map, List.filter_cons, List.filter_map, List.filter_cons]
    have e1 : itemAt (d :: ds) q 0 = q d := rfl
    have e2 : (itemAt (d :: ds) q ∘ Nat.succ) = itemAt ds q := by funext i; unfold itemAt; simp
    have e3 : (mapAt v (d :: ds) ∘ Nat.succ) = mapAt v ds := by funext i; unfold mapAt; simp
    rw [e1, e2]
    cases q d with
    | true =>
      simp only [if_true, List.map_cons, List.map_map, e3, ih]
      rfl
    | false =>
      simp only [Bool.false_eq_true, if_false, List.map_map, e3, ih]
theorem one_mem {j : Nat} {vs : List Nat} (h : j ∈ vs) : ∀ k ∈ [j], k ∈ vs := fun k m => by
  rw [List.mem_singleton] at m; rw [m]; exact h
/-- all([.. for x in tuple]) -/
theorem pv_allT (h : PV c tl ρ g fun e g1 => ∃ ds, e = .d (.tuple ds) ∧ j ∈ vs ∧ ds.length ≤ 1000000 ∧ ∃ q : PyData → Bool, (∀ x, x ∈ ds → PV c te ((wipeR ρ vs).set j (some (.d x))) g1 fun e g2 => e = .d (.bool (q x)) ∧ g2 = g1) ∧ P (.d (.bool (ds.all q))) g1) :
    PV c (tCB (rAll c.K) (tCons (tLc (iTup c.K tl) (gName j) tYes te vs) tNil)) ρ g P := by
  refine pv_all (js := [j]) (pit_tup (h.imp ?_))
  rintro e g1 ⟨ds, e1, hj, hz, q, hq, hp⟩
  refine ⟨ds, e1, one_mem hj, lt_line hz, itemAt ds q, fun i hi => ?_, by rw [itemAt_all]; exact hp⟩
  have ei := List.getElem?_eq_getElem hi
  rw [dsR_at ei, itemAt_of ei]
  exact hq _ (List.getElem_mem hi)
/-- all([.. for sign in text]) -/
theorem pv_allS (h : PV c tl ρ g fun e g1 => ∃ z : Str, e = .d (.str z) ∧ j ∈ vs ∧ z.length ≤ 1000000 ∧ ∃ q : Nat → Bool, (∀ n, n ∈ z.cps.toList → PV c te ((wipeR ρ vs).set j (some (.d (.str ⟨#[n]⟩)))) g1 fun e g2 => e = .d (.bool (q n)) ∧ g2 = g1) ∧ P (.d (.bool (z.cps.toList.all q))) g1) :
    PV c (tCB (rAll c.K) (tCons (tLc (iStr tl) (gName j) tYes te vs) tNil)) ρ g P := by
  refine pv_all (js := [j]) (pit_str (h.imp ?_))
  rintro e g1 ⟨z, e1, hj, hz, q, hq, hp⟩
  refine ⟨z, e1, one_mem hj, lt_line hz, signAt z q, fun i hi => ?_, by rw [signAt_all]; exact hp⟩
  have ei : z.cps[i]? = some z.cps[i] := Array.getElem?_eq_getElem hi
  rw [stR_at ei]
  have e2 : signAt z q i = q z.cps[i] := by rw [signAt, ei]
  rw [e2]
  exact hq _ (by simp)
/-- all([.. for i in range(n)]) -/
theorem pv_allR {ta : TA} (h : PAs c ta ρ g fun es g1 => ∃ n : Nat, ∃ k : Int, es = [.d (.int k)] ∧ k.toNat = n ∧ j ∈ vs ∧ k ≤ 1000000 ∧ -(2 ^ 62) ≤ k ∧ ∃ q : Nat → Bool, (∀ i : Nat, i < n → PV c te ((wipeR ρ vs).set j (some (.d (.int (i : Nat))))) g1 fun e g2 => e = .d (.bool (q i)) ∧ g2 = g1) ∧ P (.d (.bool ((List.range n).all q))) g1) :
    PV c (tCB (rAll c.K) (tCons (tLc (iRng1 ta) (gName j) tYes te vs) tNil)) ρ g P := by
  refine pv_all (js := [j]) (pit_rng1 fun σ I H ok en Q k => h σ I H ok en Q fun vs1 I1 H1 g1 es s1 ok1 r1 ⟨n, m, e1, hm, hj, hz, hl, q, hq, hp⟩ => k vs1 I1 H1 g1 es s1 ok1 r1 ⟨m, e1, hl, by omega, one_mem hj, lt_line (by omega), q, fun i hi => ?_, by rw [hm]; exact hp⟩)
  dsimp only
  rw [show (0 + (i : Int)) = (i : Int) from Int.zero_add _]
  exact hq i (by omega)
/-- [.. for x in tuple], [.. for x in list] -/
theorem pv_lcT (h : PV c tl ρ g fun e g1 => ∃ ds, e = .d (.tuple ds) ∧ j ∈ vs ∧ ds.length ≤ 1000000 ∧ ∃ v : PyData → PyData, (∀ x, x ∈ ds → PV c te ((wipeR ρ vs).set j (some (.d x))) g1 fun e g2 => e = .d (v x) ∧ g2 = g1) ∧ P (.d (.list (ds.map v))) g1) :
    PV c (tLc (iTup c.K tl) (gName j) tYes te vs) ρ g P := by
  refine pv_lcM (js := [j]) (pit_tup (h.imp ?_))
  rintro e g1 ⟨ds, e1, hj, hz, v, hq, hp⟩
  refine ⟨ds, e1, one_mem hj, lt_line hz, mapAt v ds, fun i hi => ?_, by rw [mapAt_map]; exact hp⟩
  have ei := List.getElem?_eq_getElem hi
  rw [dsR_at ei, mapAt_of ei]
  exact hq _ (List.getElem_mem hi)
theorem pv_lcL (h : PV c tl ρ g fun e g1 => ∃ ds, e = .d (.list ds) ∧ j ∈ vs ∧ ds.length ≤ 1000000 ∧ ∃ v : PyData → PyData, (∀ x, x ∈ ds → PV c te ((wipeR ρ vs).set j (some (.d x))) g1 fun e g2 => e = .d (v x) ∧ g2 = g1) ∧ P (.d (.list (ds.map v))) g1) :
    PV c (tLc (iList c.K tl) (gName j) tYes te vs) ρ g P := by
  refine pv_lcM (js := [j]) (pit_lst (h.imp ?_))
  rintro e g1 ⟨ds, e1, hj, hz, v, hq, hp⟩
  refine ⟨ds, e1, one_mem hj, lt_line hz, mapAt v ds, fun i hi => ?_, by rw [mapAt_map]; exact hp⟩
  have ei := List.getElem?_eq_getElem hi
  rw [dsR_at ei, mapAt_of ei]
  exact hq _ (List.getElem_mem hi)
/-- the same with a test -/
theorem pv_lcTF {tt : TT} (h : PV c tl ρ g fun e g1 => ∃ ds, e = .d (.tuple ds) ∧ j ∈ vs ∧ ds.length ≤ 1000000 ∧ ∃ (q : PyData → Bool) (v : PyData → PyData), (∀ x, x ∈ ds → PB c tt ((wipeR ρ vs).set j (some (.d x))) g1 fun b g2 => b = q x ∧ g2 = g1 ∧ (q x = true → PV c te ((wipeR ρ vs).set j (some (.d x))) g1 fun e g2 => e = .d (v x) ∧ g2 = g1)) ∧ P (.d (.list ((ds.filter q).map v))) g1) :
    PV c (tLc (iTup c.K tl) (gName j) tt te vs) ρ g P := by
  refine pv_lcF (js := [j]) (pit_tup (h.imp ?_))
  rintro e g1 ⟨ds, e1, hj, hz, q, v, hq, hp⟩
  refine ⟨ds, e1, one_mem hj, lt_line hz, itemAt ds q, mapAt v ds, fun i hi => ?_, by rw [filterAt_map]; exact hp⟩
  have ei := List.getElem?_eq_getElem hi
  rw [dsR_at ei, mapAt_of ei, itemAt_of ei]
  exact hq _ (List.getElem_mem hi)
end
end Dl
set_option Elab.async false
set_option linter.all false
set_option autoImplicit false
set_option maxRecDepth 100000
set_option maxHeartbeats 4000000
namespace Dl
open PySem PySem.Spec PyProof.Rows L2
structure TabK (K : PySem.W.Frag) (w : World) (tab : Tab) (a : Addr) (tests : Str → Option (List (PyData → Bool))) : Prop where
  no : ∀ z, tests z = none → PySem.W.nsIn K a z = some none
  yes : ∀ z ps, tests z = some ps → ∃ t fs, PySem.W.nsIn K a z = some (some (.ref t)) ∧ KDct K w a z (.ref t) ∧ (∀ H, SqT K H t fs) ∧ Judges tab fs ps
theorem word_of {d : PyData} (h : isWord d = true) : ∃ w r, d = .tuple (.str w :: r) := by
  unfold isWord at h
  split at h
  · exact ⟨_, _, rfl⟩
  · cases h
theorem cut_tail {α : Type} {x : α} {xs : List α} : cutD (x :: xs) (some 1) none = xs := by
  unfold cutD
  have h1 : HT.sIx (x :: xs).length 0 (some 1) = 1 := by
    have := HT.sIx_nat (x :: xs).length 0 1
    simp at this
    exact this
  rw [h1, HT.sIx_none]
  simp
theorem cut_take {α : Type} {xs : List α} (n : Nat) : cutD xs none (some (n : Int)) = xs.take n := by
  unfold cutD
  rw [HT.sIx_none, HT.sIx_nat]
  simp
theorem fit_tail {w : Str} {r : List PyData} (h : fit (.tuple (.str w :: r)) = true) : fit (.tuple r) = true := by
  rw [fit_tup] at h ⊢
  exact ⟨by have := h.1; simp at this; omega, fun x m => h.2 x (List.mem_cons_of_mem _ m)⟩
theorem byWord_word {tests : Str → Option (List (PyData → Bool))} {d : PyData} (h : isWord d = false) : byWord tests d = false := by
  unfold byWord
  split
  · cases h
  · rfl
theorem byWord_none {tests : Str → Option (List (PyData → Bool))} {w : Str} {r : List PyData} (h : tests w = none) : byWord tests (.tuple (.str w :: r)) = false := by
  unfold byWord; simp only [h]
theorem byWord_some {tests : Str → Option (List (PyData → Bool))} {w : Str} {r : List PyData} {ps : List (PyData → Bool)} (h : tests w = some ps) : byWord tests (.tuple (.str w :: r)) = allP r ps := by
  unfold byWord; simp only [h]
def head0 : PyData → PyData | .tuple (x :: _) => x | d => d
abbrev sheetTests : List (PyData → Bool) := [isNumber, isName, isBase, isEdit]
def numsOk : PyData → PyData → Bool
  | .int n, .tuple rows => (decide (1 ≤ n - rows.length + 1) && PyData.eqv (.list (rows.map head0)) (.list (intsD (n - rows.length + 1) (n + 1)))) || decide ((rows.length : Int) = 0)
  | _, _ => false
def isSheet : PyData → Bool
  | .tuple [b, n, p] => isCount b && isCount n && (areRows sheetTests 1 p && numsOk n p)
  | _ => false
abbrev noteTests : Str → Option (List (PyData → Bool)) := fun w =>
  if ("boot" : Str) = w then some [] else if ("write" : Str) = w then some [isName, isBase, isEdit] else if ("settled" : Str) = w then some [isNumber] else if ("stand" : Str) = w then some [isSheet] else none
def isNote : PyData → Bool := byWord noteTests
theorem num_of {d : PyData} (h : isNumber d = true) : ∃ i, d = .int i ∧ 1 ≤ i := by
  cases d with
  | int i => exact ⟨i, rfl, of_decide_eq_true h⟩
  | _ => cases h
/-- rows that begin with a number are ordered by it -/
theorem rowsOk_num {ps : List (PyData → Bool)} : RowsOk (isNumber :: ps) 1 := by
  refine ⟨by simp, Nat.le_refl _, fun x y hx hy => ?_⟩
  cases x with
  | nil => simp [allP] at hx
  | cons a x =>
    cases y with
    | nil => simp [allP] at hy
    | cons b y =>
      rw [allP, Bool.and_eq_true] at hx hy
      obtain ⟨i, rfl, _⟩ := num_of hx.1
      obtain ⟨j, rfl, _⟩ := num_of hy.1
      refine ⟨by simp [PySem.W.alike, PySem.W.alikeAll], by simp [PyData.depth, PyData.depthAll]⟩
theorem rowsOk_head {ps : List (PyData → Bool)} {rows : List PyData} (h : rows.all (isRow (isNumber :: ps)) = true) : ∀ r ∈ rows, ∃ i xs, r = .tuple (.int i :: xs) ∧ 1 ≤ i := by
  intro r hr
  have := List.all_eq_true.mp h r hr
  unfold isRow at this
  split at this
  · rename_i xs
    cases xs with
    | nil => simp [allP] at this
    | cons a x =>
      rw [allP, Bool.and_eq_true] at this
      obtain ⟨i, rfl, hi⟩ := num_of this.1
      exact ⟨i, x, rfl, hi⟩
  · cases this
/-- the first pending write has this number -/
def settles : List PyData → List PyData → Bool
  | .tuple (.int h :: _) :: _, .int k :: _ => decide (h = k)
  | _, _ => false
def rawNoted (b n : Int) (p : List PyData) (w : Str) (rest : List PyData) : PyData :=
  if w = "boot" then .tuple [.int (b + 1), .int n, .tuple p]
  else if w = "write" then .tuple [.int b, .int (n + 1), .tuple (p ++ [.tuple (.int (n + 1) :: rest)])]
  else if w = "settled" then .tuple [.int b, .int n, .tuple (if settles p rest then p.drop 1 else p)]
  else rest.headD .none
abbrev F_raw_noted : FT := FN 2 fun c g es P => ∃ b n p w rest, es = [.d (.tuple [.int b, .int n, .tuple p]), .d (.tuple (.str w :: rest))] ∧ p.length ≤ 1000000 ∧ rest.length ≤ 10 ∧
  (w = "settled" → (∃ k, rest = [.int k]) ∧ ∀ r ∈ p, ∃ i xs, r = .tuple (.int i :: xs)) ∧ (w ≠ "boot" → rest ≠ []) ∧ P (.d (rawNoted b n p w rest)) g
def noted : PyData → PyData → PyData
  | .tuple [.int b, .int n, .tuple p], .tuple (.str w :: rest) => rawNoted b n p w rest
  | _, _ => .none
theorem sheet_of {s : PyData} (h : isSheet s = true) : ∃ b n p, s = .tuple [.int b, .int n, .tuple p] ∧ ∀ r ∈ p, ∃ i xs, r = .tuple (.int i :: xs) := by
  unfold isSheet at h
  split at h
  · rename_i b n p
    simp only [Bool.and_eq_true] at h
    obtain ⟨⟨h1, h2⟩, h3, h4⟩ := h
    obtain ⟨i, rfl, _⟩ := count_of h1
    obtain ⟨j, rfl, _⟩ := count_of h2
    unfold areRows at h3
    split at h3
    · rename_i rows
      rw [Bool.and_eq_true] at h3
      exact ⟨i, j, rows, rfl, fun r hr => let ⟨i, xs, e, _⟩ := rowsOk_head h3.1 r hr; ⟨i, xs, e⟩⟩
    · cases h3
  · cases h
theorem note_of {d : PyData} (h : isNote d = true) : ∃ w rest, d = .tuple (.str w :: rest) ∧ rest.length ≤ 10 ∧ (w = "settled" → ∃ k, rest = [.int k]) ∧ (w ≠ "boot" → rest ≠ []) := by
  unfold isNote byWord at h
  split at h
  · rename_i w rest
    split at h
    · rename_i ps hps
      have hl := allP_len h
      simp only [noteTests] at hps
      refine ⟨w, rest, rfl, ?_, fun e => ?_, fun e => ?_⟩
      · (repeat' split at hps) <;> cases hps <;> (first | (rw [hl]; decide) | (simp only [List.length_nil, List.length_cons] at hl; omega))
      · subst e
        rw [if_neg (by decide +kernel), if_neg (by decide +kernel), if_pos rfl] at hps
        cases hps
        match rest, h with
        | [k], h =>
          rw [allP, Bool.and_eq_true] at h
          obtain ⟨i, rfl, _⟩ := num_of h.1
          exact ⟨i, rfl⟩
        | [], h => simp [allP] at h
        | _ :: _ :: _, h => simp [allP] at h
      · intro q
        subst q
        rw [if_neg (fun z => e z.symm)] at hps
        (repeat' split at hps) <;> cases hps <;> simp at hl
    · cases h
  · cases h
theorem judges_get {tab : Tab} : ∀ {fs : List V} {ps : List (PyData → Bool)} {i : Nat} {f : V}, Judges tab fs ps → fs[i]? = some f → ∃ p, ps[i]? = some p ∧ ∃ a, f = V.ref a ∧ tab a = some p
  | _, _, i, f, .nil, h => by simp at h
  | _, _, 0, f, .cons r _, h => by simp at h; subst h; exact ⟨_, rfl, r⟩
  | _, _, i + 1, f, .cons _ t, h => by
    obtain ⟨p, a, b⟩ := judges_get (i := i) t (by simpa using h)
    exact ⟨p, by simpa using a, b⟩
theorem zipR_at {a b i : Nat} {fs ds : List EV} {r : Rho} {x y : EV} (h1 : fs[i]? = some x) (h2 : ds[i]? = some y) : zipR a b fs ds i r = (r.set a (some x)).set b (some y) := by unfold zipR; rw [h1, h2]
theorem allP_ne {ds : List PyData} {ps : List (PyData → Bool)} (h : ds.length ≠ ps.length) : allP ds ps = false := by
  cases e : allP ds ps with
  | false => rfl
  | true => exact absurd (allP_len e) h
theorem rows_not {ps : List (PyData → Bool)} {n : Nat} {d : PyData} (h : isTup d = false) : areRows ps n d = false := by
  cases d <;> first | rfl | cases h
theorem row_not {ps : List (PyData → Bool)} {d : PyData} (h : isTup d = false) : isRow ps d = false := by
  cases d <;> first | rfl | cases h
theorem rows_bad {ps : List (PyData → Bool)} {n : Nat} {rows : List PyData} (h : rows.all (isRow ps) = false) : areRows ps n (.tuple rows) = false := by
  rw [areRows, h, Bool.false_and]
theorem rows_good {ps : List (PyData → Bool)} {n : Nat} {rows : List PyData} (h : rows.all (isRow ps) = true) : areRows ps n (.tuple rows) = asc (rows.map (cutT n)) := by
  rw [areRows, h, Bool.true_and]
theorem row_of {ps : List (PyData → Bool)} {d : PyData} (h : isRow ps d = true) : ∃ xs, d = .tuple xs ∧ allP xs ps = true := by
  unfold isRow at h
  split at h
  · exact ⟨_, rfl, h⟩
  · cases h
theorem rows_alike {ps : List (PyData → Bool)} {n : Nat} {rows : List PyData} (h : rows.all (isRow ps) = true) (k : RowsOk ps n) : ∀ (i : Nat) (a b : PyData), (rows.map (cutT n))[i]? = some a → (rows.map (cutT n))[i + 1]? = some b → noD a = true ∧ noD b = true ∧ PySem.W.alike a b = true ∧ a ≠ .none ∧ min a.depth b.depth ≤ 60 := by
  intro i a b ha hb
  rw [List.getElem?_map] at ha hb
  cases e1 : rows[i]? with
  | none => rw [e1] at ha; cases ha
  | some x =>
    cases e2 : rows[i + 1]? with
    | none => rw [e2] at hb; cases hb
    | some y =>
      rw [e1] at ha; rw [e2] at hb
      obtain ⟨xs, ex, hx⟩ := row_of (List.all_eq_true.mp h x (List.mem_of_getElem? e1))
      obtain ⟨ys, ey, hy⟩ := row_of (List.all_eq_true.mp h y (List.mem_of_getElem? e2))
      subst ex ey
      cases ha; cases hb
      obtain ⟨q1, q2⟩ := k.2.2 xs ys hx hy
      exact ⟨noD_self (k.2.2 xs xs hx hx).1, noD_self (k.2.2 ys ys hy hy).1, q1, (fun z => nomatch z), Nat.le_trans (Nat.min_le_left _ _) q2⟩
theorem sheet_not3 {d : PyData} (h : isTupN 3 d = false) : isSheet d = false := by
  cases e : isSheet d with
  | false => rfl
  | true =>
    unfold isSheet at e
    split at e
    · cases h
    · cases e
theorem lay_ints {ds : List PyData} (h : ∀ d ∈ ds, ∃ i, d = .int i) : (PyData.list ds).canLay0 = true := by
  rw [PyData.canLay0]
  refine layAll_of fun d m => ?_
  obtain ⟨i, rfl⟩ := h d m
  rw [PyData.canLay0]
theorem depthAll_ints : ∀ {ds : List PyData}, (∀ d ∈ ds, ∃ i, d = .int i) → PyData.depthAll ds = 0
  | [], _ => by simp [PyData.depthAll]
  | d :: ds, h => by
    obtain ⟨i, rfl⟩ := h d List.mem_cons_self
    simp [PyData.depthAll, PyData.depth, depthAll_ints fun x m => h x (List.mem_cons_of_mem _ m)]
theorem depth_ints {ds : List PyData} (h : ∀ d ∈ ds, ∃ i, d = .int i) : (PyData.list ds).depth ≤ 64 := by
  simp [PyData.depth, depthAll_ints h]
theorem rows_tup {ps : List (PyData → Bool)} {n : Nat} {d : PyData} (h : areRows ps n d = true) : ∃ rows, d = .tuple rows ∧ rows.all (isRow ps) = true := by
  unfold areRows at h
  split at h
  · rw [Bool.and_eq_true] at h
    exact ⟨_, rfl, h.1⟩
  · cases h
theorem intsD_int {a b : Int} : ∀ d ∈ intsD a b, ∃ i, d = .int i ∧ a ≤ i ∧ i < b := by
  intro d hd
  unfold intsD at hd
  obtain ⟨i, hi, e⟩ := List.mem_map.mp hd
  have := List.mem_range.mp hi
  exact ⟨_, e.symm, by omega, by omega⟩
theorem fit_ints {ds : List PyData} (hz : ds.length ≤ 1000000) (h : ∀ d ∈ ds, ∃ i, d = .int i ∧ -(2 ^ 61) ≤ i ∧ i ≤ 2 ^ 61) : fit (.list ds) = true := by
  rw [fit_lst]
  refine ⟨hz, fun x m => ?_⟩
  obtain ⟨i, rfl, a, b⟩ := h x m
  exact fit_int.mpr ⟨a, b⟩
theorem sheet_eq {b : PyData} {N : Int} {rows : List PyData} (h1 : isCount b = true) (h2 : isCount (.int N) = true) (h3 : areRows sheetTests 1 (.tuple rows) = true) :
    isSheet (.tuple [b, .int N, .tuple rows]) = ((decide (1 ≤ N - rows.length + 1) && PyData.eqv (.list (rows.map head0)) (.list (intsD (N - rows.length + 1) (N + 1)))) || decide ((rows.length : Int) = 0)) := by
  show (isCount b && isCount (.int N) && (areRows sheetTests 1 (.tuple rows) && numsOk (.int N) (.tuple rows))) = _
  rw [h1, h2, h3]
  rfl
end Dl
set_option Elab.async false
set_option linter.all false
set_option autoImplicit false
set_option maxRecDepth 100000
set_option maxHeartbeats 4000000
namespace Dl
open PySem PySem.Spec PyProof.Rows L2
inductive MO where
  | ml (es : List EV)
  | md (es : List (Key × EV))
  | mt (es : List (List Key × EV))
  | lt (o : Obj) (kvs : List (List Key × V)) (es : List (List Key × EV))
  | mi (C : Addr) (ns : List Str) (es : List (Str × EV))
  | lk (o : Obj) (kvs : List (Key × V)) (es : List (Key × EV))
abbrev Store := Addr → Option MO
def RelP (K : PySem.W.Frag) (I : Hp) (p : Key × V) (q : Key × EV) : Prop := p.1 = q.1 ∧ RelE K I p.2 q.2
def RelPT (K : PySem.W.Frag) (I : Hp) (p : List Key × V) (q : List Key × EV) : Prop := p.1 = q.1 ∧ RelE K I p.2 q.2
def RelF (K : PySem.W.Frag) (I : Hp) (p : Str × V) (q : Str × EV) : Prop := p.1 = q.1 ∧ RelE K I p.2 q.2
def RelO (K : PySem.W.Frag) (I H : Hp) (a : Addr) : MO → Prop
  | .ml es => ∃ vs, H a = some (.lst vs) ∧ Paired (RelE K I) vs es
  | .md es => ∃ kvs, H a = some (.dK kvs) ∧ Paired (RelP K I) kvs es
  | .mt es => ∃ kvs, H a = some (.dT kvs) ∧ Paired (RelPT K I) kvs es
  | .lt o kvs es => H a = some (.frz o (.dT kvs)) ∧ Paired (RelPT K I) kvs es
  | .mi C ns es => ∃ dx vs, H a = some (.ins C dx vs) ∧ Paired (RelF K I) vs es ∧ Cls K C ∧ ∀ f ∈ ns, NoAttr K C f
  | .lk o kvs es => H a = some (.frz o (.dK kvs)) ∧ Paired (RelP K I) kvs es
theorem paired_imp {α β : Type} {R S : α → β → Prop} (i : ∀ x y, R x y → S x y) : ∀ {xs : List α} {ys : List β}, Paired R xs ys → Paired S xs ys
  | _, _, .nil => .nil
  | _, _, .cons h t => .cons (i _ _ h) (paired_imp i t)
theorem relO_ml {K : PySem.W.Frag} {I H : Hp} {a : Addr} {vs : List V} {es : List EV} (h1 : H a = some (.lst vs)) (h2 : Paired (RelE K I) vs es) : RelO K I H a (.ml es) := ⟨vs, h1, h2⟩
theorem RelO.mono {K : PySem.W.Frag} {I I' H H' : Hp} {a : Addr} {o : MO} (x : Ex I I') (e : H' a = H a) (h : RelO K I H a o) : RelO K I' H' a o := by
  cases o with
  | ml es => obtain ⟨vs, h1, h2⟩ := h; exact ⟨vs, by rw [e]; exact h1, Paired.relMono x h2⟩
  | md es => obtain ⟨vs, h1, h2⟩ := h; exact ⟨vs, by rw [e]; exact h1, paired_imp (fun _ _ q => ⟨q.1, q.2.mono x⟩) h2⟩
  | mt es => obtain ⟨vs, h1, h2⟩ := h; exact ⟨vs, by rw [e]; exact h1, paired_imp (fun _ _ q => ⟨q.1, q.2.mono x⟩) h2⟩
  | lt o kvs es => obtain ⟨h1, h2⟩ := h; exact ⟨by rw [e]; exact h1, paired_imp (fun _ _ q => ⟨q.1, q.2.mono x⟩) h2⟩
  | lk o kvs es => obtain ⟨h1, h2⟩ := h; exact ⟨by rw [e]; exact h1, paired_imp (fun _ _ q => ⟨q.1, q.2.mono x⟩) h2⟩
  | mi C ns es => obtain ⟨dx, vs, h1, h2, h3⟩ := h; exact ⟨dx, vs, by rw [e]; exact h1, paired_imp (fun _ _ q => ⟨q.1, q.2.mono x⟩) h2, h3⟩
theorem RelO.some {K : PySem.W.Frag} {I H : Hp} {a : Addr} {o : MO} (h : RelO K I H a o) : H a ≠ none := by
  cases o with
  | ml es => obtain ⟨vs, h1, h2⟩ := h; rw [h1]; simp
  | md es => obtain ⟨vs, h1, h2⟩ := h; rw [h1]; simp
  | mt es => obtain ⟨vs, h1, h2⟩ := h; rw [h1]; simp
  | lt o kvs es => obtain ⟨h1, h2⟩ := h; rw [h1]; simp
  | lk o kvs es => obtain ⟨h1, h2⟩ := h; rw [h1]; simp
  | mi C ns es => obtain ⟨dx, vs, h1, h2, h3⟩ := h; rw [h1]; simp
/-- the context with a store -/
abbrev sC (K : PySem.W.Frag) : Ctx where
  K := K
  S := Store
  M g a := g a ≠ none
  J g I H := ∀ a o, g a = some o → RelO K I H a o
  jm := fun g I I' H H' j x k a o e => (j a o e).mono x (k a (by rw [e]; simp))
  mh := fun g I H a j m => by
    cases e : g a with
    | none => exact absurd e m
    | some o => exact (j a o e).some
def put (g : Store) (a : Addr) (o : MO) : Store := fun b => if b = a then some o else g b
theorem put_same {g : Store} {a : Addr} {o : MO} : put g a o a = some o := if_pos rfl
theorem put_ne {g : Store} {a b : Addr} {o : MO} (h : b ≠ a) : put g a o b = g b := if_neg h
section
variable {K : PySem.W.Frag} {I H : Hp} {g : Store} {a : Addr} {ho : HO} {o : MO}
theorem Ok.putM (k : Ok (sC K) I H g) (h : g a ≠ none) (r : RelO K I (upd H a ho) a o) : Ok (sC K) I (upd H a ho) (Dl.put g a o) := by
  refine ⟨fun b u e => ?_, fun b o' e => ?_, fun b m => ?_⟩
  · have ne : b ≠ a := fun z => by rw [z, k.out a h] at e; cases e
    rw [upd_ne ne]; exact k.ex b u e
  · by_cases z : b = a
    · rw [z, put_same] at e
      cases e
      rw [z]; exact r
    · rw [put_ne z] at e
      exact RelO.mono (Ex.refl I) (upd_ne z) (k.j b o' e)
  · by_cases z : b = a
    · rw [z]; exact k.out a h
    · have m' : Dl.put g a o b ≠ none := m
      rw [put_ne z] at m'
      exact k.out b m'
theorem Step.putM (h : g a ≠ none) : Step (sC K) I H g I (upd H a ho) (Dl.put g a o) := by
  refine ⟨Ex.refl I, fun b u e m => ?_, fun _ _ _ _ e _ => e, fun b m => ?_, fun b e => ?_⟩
  · have ne : b ≠ a := fun z => m (by show g b ≠ none; rw [z]; exact h)
    rw [upd_ne ne]; exact e
  · by_cases z : b = a
    · rw [z]; exact .inl h
    · have m' : Dl.put g a o b ≠ none := m
      rw [put_ne z] at m'
      exact .inl m'
  · by_cases z : b = a
    · rw [z, upd_same]; simp
    · rw [upd_ne z]; exact e
theorem Ok.newM (k : Ok (sC K) I H g) (h : H a = none) (r : RelO K I (upd H a ho) a o) : Ok (sC K) I (upd H a ho) (put g a o) := by
  have hg : g a = none := by
    cases e : g a with
    | none => rfl
    | some o => exact absurd h (k.j a o e).some
  refine ⟨fun b u e => ?_, fun b o' e => ?_, fun b m => ?_⟩
  · have ne : b ≠ a := fun z => by rw [z, k.free h] at e; cases e
    rw [upd_ne ne]; exact k.ex b u e
  · by_cases z : b = a
    · rw [z, put_same] at e
      cases e
      rw [z]; exact r
    · rw [put_ne z] at e
      exact RelO.mono (Ex.refl I) (upd_ne z) (k.j b o' e)
  · by_cases z : b = a
    · rw [z]; exact k.free h
    · have m' : Dl.put g a o b ≠ none := m
      rw [put_ne z] at m'
      exact k.out b m'
theorem Step.newM (h : H a = none) : Step (sC K) I H g I (upd H a ho) (put g a o) := by
  refine ⟨Ex.refl I, fun b u e m => ?_, fun _ _ _ _ e _ => e, fun b m => ?_, fun b e => ?_⟩
  · rw [upd_ne (ne_of_none e h)]; exact e
  · by_cases z : b = a
    · rw [z]; exact .inr h
    · have m' : Dl.put g a o b ≠ none := m
      rw [put_ne z] at m'
      exact .inl m'
  · have ne : b ≠ a := fun z => e (by rw [z]; exact h)
    rw [upd_ne ne]; exact e
end
theorem paired_at {K : PySem.W.Frag} {I : Hp} {es : List EV} {vs : List V} {i : Int} {e : EV} (h : Paired (RelE K I) vs es) (q : atI es i = some e) : ∃ v, atI vs i = some v ∧ RelE K I v e := by
  unfold atI at q ⊢
  rw [paired_len h]
  cases z : ixN es.length i with
  | none => rw [z] at q; cases q
  | some j =>
    rw [z] at q
    exact paired_get h q
theorem paired_set {α β : Type} {R : α → β → Prop} {x : α} {y : β} (r : R x y) : ∀ {j : Nat} {xs : List α} {ys : List β}, Paired R xs ys → Paired R (xs.set j x) (ys.set j y)
  | _, _, _, .nil => by simpa using Paired.nil
  | 0, _, _, .cons h t => .cons r t
  | j + 1, _, _, .cons h t => .cons h (paired_set r t)
def getA (es : List (Key × EV)) (k : Key) : Option EV := (es.find? fun p => decide (p.1 = k)).map (·.2)
theorem relP_get {K : PySem.W.Frag} {I : Hp} {k : Key} : ∀ {kvs : List (Key × V)} {es : List (Key × EV)} {e : EV}, Paired (RelP K I) kvs es → getA es k = some e → ∃ v, valV kvs k = some v ∧ RelE K I v e
  | _, _, _, .nil, q => by cases q
  | p :: _, x :: _, e, .cons h t, q => by
    by_cases z : p.1 = k
    · rw [getA, List.find?_cons, decide_eq_true (by rw [← h.1]; exact z)] at q
      cases q
      exact ⟨p.2, valV_pos z, h.2⟩
    · rw [getA, List.find?_cons, decide_eq_false (by rw [← h.1]; exact z)] at q
      obtain ⟨v, e1, e2⟩ := relP_get t q
      exact ⟨v, by rw [valV_neg z]; exact e1, e2⟩
section
variable {K : PySem.W.Frag} {w : World} {g : Store} {P : EV → Store → Prop} {ρ : Rho} {te ta tb td ty tv : TE} {Pn : Rho → Store → Prop} {a : Addr}
theorem o_ixM {es : List EV} {i : Int} {e : EV} (hg : g a = some (.ml es)) (hi : atI es i = some e) (p : P e g) : O2 (sC K) (zIx (sC K).K w) (.r (.ref a)) (.d (.int i)) g P := fun I H xv yv ok rx ry Q k => by
  cases ry
  have rx' : xv = .ref a := rx
  subst rx'
  obtain ⟨vs, h1, h2⟩ := ok.j a _ hg
  obtain ⟨v, e1, r⟩ := paired_at h2 hi
  exact .inl (.inl ⟨a, vs, i, v, rfl, rfl, .inl (.inl h1), e1, k.here (e := e) ok r p⟩)
/-- a list display as an object that changes -/
theorem pv_lstM {tl : TA} (h : PAs (sC K) tl ρ g fun es g1 => es.length ≤ sizeLine ∧ ∀ q, g1 q = none → P (.r (.ref q)) (put g1 q (.ml es))) : PV (sC K) (tLst tl) ρ g P := fun σ I H ok en Q k =>
  h σ I H ok en _ fun vs I1 H1 g1 es s1 ok1 r1 ⟨hz, p1⟩ => by
    refine ⟨by rw [paired_len r1]; exact hz, fun q hq => k _ I1 _ _ (.r (.ref q)) (s1.trans (Step.newM hq)) (ok1.newM hq (relO_ml upd_same r1)) rfl (p1 q ?_)⟩
    cases e : g1 q with
    | none => rfl
    | some o => exact absurd hq (ok1.j q o e).some
theorem ps_setix {to ti : TE} {Pr : EV → Store → Prop} (h : PV (sC K) te ρ g fun e g1 => PV (sC K) to ρ g1 fun x g2 => PV (sC K) ti ρ g2 fun y g3 => ∃ a es i j, x = .r (.ref a) ∧ y = .d (.int i) ∧ g3 a = some (.ml es) ∧ ixN es.length i = some j ∧ Pn ρ (put g3 a (.ml (es.set j e)))) :
    PSt (sC K) (tAsg te (gSub to ti rSetL)) ρ g Pn Pr := fun σ I H ok en D kn kr =>
  h σ I H ok en _ fun v I1 H1 g1 e s1 ok1 r1 p1 => p1 σ I1 H1 ok1 (en.mono s1.im) _ fun u I2 H2 g2 x s2 ok2 r2 p2 => p2 σ I2 H2 ok2 (en.mono (s1.trans s2).im) _ fun t I3 H3 g3 y s3 ok3 r3 ⟨a, es, i, j, e1, e2, hg, hj, p3⟩ => by
    subst e1 e2
    cases r3
    have r2' : u = .ref a := r2
    subst r2'
    obtain ⟨vs, h1, h2⟩ := ok3.j a _ hg
    have ha : g3 a ≠ none := by rw [hg]; simp
    have re : RelE K I3 v e := r1.mono (s2.trans s3).im
    exact ⟨a, vs, i, j, rfl, rfl, h1, by rw [paired_len h2]; exact hj, kn σ I3 _ _ ρ (((s1.trans s2).trans s3).trans (Step.putM (K := K) (o := _) ha)) (ok3.putM ha (relO_ml upd_same (paired_set re h2))) (en.mono ((s1.trans s2).trans s3).im) p3⟩
theorem pv_dget (h : PV (sC K) td ρ g fun x g1 => PV (sC K) ty ρ g1 fun y g2 => ∃ a es z e, x = .r (.ref a) ∧ y = .d (.str z) ∧ g2 a = some (.md es) ∧ getA es (.inr z) = some e ∧ P e g2) : PV (sC K) (tDGet td ty) ρ g P := fun σ I H ok en Q k =>
  h σ I H ok en _ fun v I1 H1 g1 x s1 ok1 r1 p1 => p1 σ I1 H1 ok1 (en.mono s1.im) _ fun u I2 H2 g2 y s2 ok2 r2 ⟨a, es, z, e, e1, e2, hg, he, p2⟩ => by
    subst e1 e2
    cases r2
    have r1' : v = .ref a := r1
    subst r1'
    obtain ⟨kvs, h1, h2⟩ := ok2.j a _ hg
    obtain ⟨v, hv, r⟩ := relP_get h2 he
    exact ⟨a, v, rfl, by rw [← hv]; exact DGet.k (k := .inr z) h1, k _ I2 H2 g2 e (s1.trans s2) ok2 r p2⟩
def PPr (c : Ctx) (t : L2.St → Hp → (List (V × V) → Hp → Prop) → Prop) (ρ : Rho) (g : c.S) (P : List (Key × EV) → c.S → Prop) : Prop := ∀ σ I H, Ok c I H g → EnvOk c.K I σ ρ → ∀ Q : List (V × V) → Hp → Prop,
  (∀ kvs I' H' g' es, Step c I H g I' H' g' → Ok c I' H' g' → Paired (RelP c.K I') kvs es → P es g' → Q (kvs.map fun kv => (kV kv.1, kv.2)) H') → t σ H Q
theorem pp_nil {c : Ctx} {g : c.S} {P : List (Key × EV) → c.S → Prop} (p : P [] g) : PPr c (tPairs []) ρ g P := fun σ I H ok en Q k => k [] I H g [] Step.refl ok .nil p
end
/-- a promise told in the context with a store -/
abbrev FS := Store → List EV → (EV → Store → Prop) → Prop
def FL (n : Nat) (F : FS) : FT := fun c g es P => es.length = n ∧ ∃ (K : PySem.W.Frag) (g0 : Store) (P0 : EV → Store → Prop), (⟨c, g, P⟩ : (c : Ctx) × c.S × (EV → c.S → Prop)) = ⟨sC K, g0, P0⟩ ∧ F g0 es P0
theorem use_FL {n : Nat} {F : FS} {K : PySem.W.Frag} {g : Store} {es : List EV} {P : EV → Store → Prop} (l : es.length = n) (h : F g es P) : FL n F (sC K) g es P := ⟨l, K, g, P, rfl, h⟩
end Dl
set_option Elab.async false
set_option linter.all false
set_option autoImplicit false
set_option maxRecDepth 100000
set_option maxHeartbeats 4000000
namespace Dl
open PySem PySem.Spec PyProof.Rows L2
theorem spFL {K : PySem.W.Frag} {n : Nat} {F : FS} {vs : List V} {H : Hp} {Q : VK} {E : XK} (h : SpF K (FL n F) vs H Q E) : ∃ (I : Hp) (g : Store) (es : List EV) (P : EV → Store → Prop), Ok (sC K) I H g ∧ Paired (RelE (sC K).K I) vs es ∧ F g es P ∧ End (sC K) I H g P Q := by
  obtain ⟨c, I, g, es, P, e, ok, r, ⟨-, K0, g0, P0, e0, hF⟩, k⟩ := h
  cases e0
  have e' : K0 = K := e
  subst e'
  exact ⟨I, _, es, _, ok, r, hF, k⟩
theorem ps_cut {c : Ctx} {ρ : Rho} {g : c.S} {t u : TS} {Pn : Rho → c.S → Prop} {Pr : EV → c.S → Prop} (Mid : Rho → c.S → Prop) (h1 : PSt c t ρ g Mid Pr) (h2 : ∀ ρ1 g1, Mid ρ1 g1 → PSt c u ρ1 g1 Pn Pr) : PSt c (tSeq t u) ρ g Pn Pr := Dl.ps_seq (h1.imp h2)
theorem o_neg {c : Ctx} {g : c.S} {P : EV → c.S → Prop} {f : Int → Int} {i : Int} (p : P (.d (.int (f i))) g) : O1 c (rU fun i => .int (f i)) (.d (.int i)) g P := fun I H xv ok rx Q k => by
  cases rx
  exact ⟨i, rfl, k.here (e := .d (.int (f i))) ok (Dp.int _) p⟩
theorem atI_some {α : Type} {xs : List α} {i : Int} (h0 : 0 ≤ i) (h1 : i < xs.length) : ∃ x, atI xs i = some x ∧ x ∈ xs := by
  obtain ⟨n, rfl⟩ := Int.eq_ofNat_of_zero_le h0
  have hn : n < xs.length := by omega
  exact ⟨xs[n], atI_nat (List.getElem?_eq_getElem hn), List.getElem_mem hn⟩
section
variable {c : Ctx} {ρ : Rho} {g : c.S} {P : EV → c.S → Prop} {te : TE} {vs js : List Nat} {wi : TI} {gt : TG}
/-- a comprehension whose items are known by a property alone -/
theorem pv_lcG (h : PIt c wi gt js ρ g fun n f g1 => (∀ j ∈ js, j ∈ vs) ∧ n < sizeLine ∧ ∃ (G : Nat → PyData → Prop) (J : c.S → Prop), J g1 ∧ (∀ i g2, i < n → J g2 → PV c te (f i (wipeR ρ vs)) g2 fun e g3 => ∃ d, e = .d d ∧ G i d ∧ J g3) ∧
    (∀ ds g2, ds.length = n → (∀ (i : Nat) (d : PyData), ds[i]? = some d → G i d) → J g2 → P (.d (.list ds)) g2)) : PV c (tLc wi gt tYes te vs) ρ g P := by
  refine pv_lc fun σ I H ok en R k => h σ I H ok en R fun J n f I1 H1 g1 s1 ok1 W ⟨hj, hn, G, Jv, h0, turn, hp⟩ => k J n f I1 H1 g1 s1 ok1 W ⟨hj, hn, fun i acc g2 => acc.length = i ∧ (∀ (i : Nat) (d : PyData), acc[i]? = some d → G i d) ∧ Jv g2, ⟨rfl, fun i d e => by simp at e, h0⟩, ?_, ?_⟩
  · rintro i acc g2 hi _ ⟨hl, hG, hJ⟩
    refine fun σ I H ok en Q kq => kq true I H g2 Step.refl ok ?_
    dsimp only
    rw [if_pos rfl]
    refine (turn i g2 hi hJ).imp fun e g3 ⟨d, e1, hd, hJ3⟩ => ⟨d, e1, by simp [hl], fun k x q => ?_, hJ3⟩
    by_cases hk : k < acc.length
    · rw [List.getElem?_append_left hk] at q
      exact hG k x q
    · rw [List.getElem?_append_right (by omega)] at q
      have hk2 : k = acc.length := by
        have := (List.getElem?_eq_some_iff.mp q).1
        simp at this; omega
      subst hk2
      simp at q
      subst q
      rw [hl]; exact hd
  · rintro acc g2 _ ⟨hl, hG, hJ⟩
    exact hp acc g2 hl hG hJ
def sgn (x : Nat) : PyData := .str ⟨#[x]⟩
theorem sgns_of {good : Nat → Prop} : ∀ {ds : List PyData}, (∀ d ∈ ds, ∃ x, d = sgn x ∧ good x) → ∃ ns : List Nat, ds = ns.map sgn ∧ ∀ x ∈ ns, good x
  | [], _ => ⟨[], rfl, fun x h => by cases h⟩
  | d :: ds, h => by
    obtain ⟨x, rfl, hx⟩ := h d (by simp)
    obtain ⟨ns, rfl, hn⟩ := sgns_of (ds := ds) fun y m => h y (by simp [m])
    refine ⟨x :: ns, rfl, fun y m => ?_⟩
    rcases List.mem_cons.mp m with rfl | m
    · exact hx
    · exact hn y m
theorem join_sgns (ns : List Nat) : Txt.join (Str.ofString "") (ns.map fun x => (⟨#[x]⟩ : Str)) = ⟨ns.toArray⟩ := by
  show Builtin.Str.glued (Str.ofString "") _ = _
  rw [StrLaws.glued_eq_join]
  have e : (Str.ofString "") = (⟨#[]⟩ : Str) := by decide
  rw [e]
  exact PyProof.Rows.join_nil_signs ⟨ns.toArray⟩
theorem sum_ones (ns : List Nat) : ((ns.map fun x => (⟨#[x]⟩ : Str)).map (·.length)).sum = ns.length := by
  induction ns with
  | nil => rfl
  | cons x ns ih =>
    rw [List.map_cons, List.map_cons, List.sum_cons, ih, List.length_cons]
    show 1 + _ = _
    omega
theorem pv_word (h : PIt c wi gt js ρ g fun n f g1 => (∀ j ∈ js, j ∈ vs) ∧ n ≤ 1000 ∧ ∃ (good : Nat → Prop) (J : c.S → Prop), J g1 ∧ (∀ i g2, i < n → J g2 → PV c te (f i (wipeR ρ vs)) g2 fun e g3 => ∃ x, e = .d (.str ⟨#[x]⟩) ∧ good x ∧ J g3) ∧
    (∀ (ns : List Nat) (g2 : c.S), ns.length = n → (∀ x ∈ ns, good x) → J g2 → P (.d (.str ⟨ns.toArray⟩)) g2)) : PV c (tM1 (zJoin c.K) (tC (.str (Str.ofString ""))) (tLc wi gt tYes te vs)) ρ g P := by
  refine pv_join (pv_lcG fun σ I H ok en R k => h σ I H ok en R fun J n f I1 H1 g1 s1 ok1 W ⟨hj, hn, good, Jv, h0, turn, hp⟩ => k J n f I1 H1 g1 s1 ok1 W ⟨hj, lt_line (by omega), fun _ d => ∃ x, d = sgn x ∧ good x, Jv, h0, fun i g2 hi hJ => (turn i g2 hi hJ).imp fun e g3 ⟨x, e1, hx, hJ3⟩ => ⟨_, e1, ⟨x, rfl, hx⟩, hJ3⟩, fun ds g2 hl hG hJ => ?_⟩)
  obtain ⟨ns, rfl, hn2⟩ := sgns_of (good := good) (ds := ds) fun d hd => by
    obtain ⟨i, hi, rfl⟩ := List.getElem_of_mem hd
    exact hG i _ (List.getElem?_eq_getElem hi)
  rw [List.length_map] at hl
  refine ⟨ns.map fun x => ⟨#[x]⟩, by rw [List.map_map]; rfl, ?_, ?_⟩
  · rw [sum_ones]
    have e : (Str.ofString "").length = 0 := by decide
    rw [e]; omega
  · rw [join_sgns]
    exact hp ns g2 hl hn2 hJ
end
theorem text_ok {ns : List Nat} (hl : ns.length ≤ 96) (h : ∀ x ∈ ns, isSign x = true) : isText (.str ⟨ns.toArray⟩) = true ∧ fit (.str ⟨ns.toArray⟩) = true := by
  have e : (⟨ns.toArray⟩ : Str).length = ns.length := by show ns.toArray.size = _; simp
  refine ⟨?_, ?_⟩
  · simp only [isText, e, Bool.and_eq_true, decide_eq_true_eq, List.all_eq_true]
    exact ⟨by omega, fun x m => h x (by simpa using m)⟩
  · rw [fit_str]
    exact ⟨by rw [e]; omega, trivial⟩
theorem name_ok {ns : List Nat} (h0 : 1 ≤ ns.length) (hl : ns.length ≤ 8) (h : ∀ x ∈ ns, x ∈ lows.cps.toList) : isName (.str ⟨ns.toArray⟩) = true ∧ fit (.str ⟨ns.toArray⟩) = true := by
  have e : (⟨ns.toArray⟩ : Str).length = ns.length := by show ns.toArray.size = _; simp
  refine ⟨?_, ?_⟩
  · simp only [isName, e, Bool.and_eq_true, decide_eq_true_eq, List.all_eq_true]
    exact ⟨by omega, by omega, fun x m => h x (by simpa using m)⟩
  · rw [fit_str]
    exact ⟨by rw [e]; omega, trivial⟩
def absD : PyData → PyData | .int i => .int (if i < 0 then -i else i) | d => d
def Kept (g g' : Store) (p : Addr) : Prop := ∀ b, b ≠ p → g b ≠ none → g' b = g b
theorem Kept.refl {g : Store} {p : Addr} : Kept g g p := fun _ _ _ => rfl
theorem Kept.trans {g g1 g2 : Store} {p : Addr} (a : Kept g g1 p) (b : Kept g1 g2 p) : Kept g g2 p := fun x h n => (b x h (by rw [a x h n]; exact n)).trans (a x h n)
theorem Kept.put {g : Store} {p : Addr} {o : MO} : Kept g (put g p o) p := fun _ h _ => put_ne h
theorem Kept.new {g : Store} {p q : Addr} {o : MO} (h : g q = none) : Kept g (Dl.put g q o) p := fun b _ n => put_ne fun e => n (by rw [e]; exact h)
structure PotOk (ns : List Int) (i a m n : Int) : Prop where
  ns0 : ∀ x ∈ ns, 0 ≤ x
  i0 : 0 ≤ i
  a0 : 0 ≤ a
  len : ns.length ≤ 63
def PotIs (g : Store) (p : Addr) : Prop := ∃ ns i a m n, g p = some (.ml [.d (.list (List.map PyData.int ns)), .d (.int i), .d (.int a), .d (.int m), .d (.int n)]) ∧ PotOk ns i a m n
theorem PotIs.there {g : Store} {p : Addr} (h : PotIs g p) : g p ≠ none := by
  obtain ⟨ns, i, a, m, n, e, _⟩ := h
  rw [e]; simp
theorem PotIs.kept {g g' : Store} {p q : Addr} (h : PotIs g p) (k : Kept g g' q) (ne : p ≠ q) : PotIs g' p := by
  have t := h.there
  unfold PotIs at h ⊢
  rw [k p ne t]; exact h
theorem PotIs.new {g : Store} {p q : Addr} {o : MO} (h : PotIs g p) (hq : g q = none) : PotIs (put g q o) p := by
  have ne : p ≠ q := fun e => h.there (by rw [e]; exact hq)
  unfold PotIs at h ⊢
  rw [put_ne ne]; exact h
abbrev F__law_pot : FT := FL 1 fun g es P => ∃ ns : List Int, es = [.d (.list (ns.map .int))] ∧ ns.length ≤ 63 ∧ ∀ q g', g q = none → PotIs g' q → Kept g g' q → P (.r (.ref q)) g'
abbrev F__law_draw : FT := FL 2 fun g es P => ∃ p n, es = [.r (.ref p), .d (.int n)] ∧ 1 ≤ n ∧ n < 1099511627776 ∧ PotIs g p ∧ ∀ g' r, PotIs g' p → Kept g g' p → 0 ≤ r → r < n → P (.d (.int r)) g'
abbrev F__law_any : FT := FL 2 fun g es P => ∃ p ds, es = [.r (.ref p), .d (.list ds)] ∧ ds ≠ [] ∧ ds.length ≤ 1000000 ∧ PotIs g p ∧ ∀ g' d, PotIs g' p → Kept g g' p → d ∈ ds → P (.d d) g'
abbrev F__law_signs : FT := FL 2 fun g es P => ∃ p n, es = [.r (.ref p), .d (.int n)] ∧ 0 ≤ n ∧ n ≤ 96 ∧ PotIs g p ∧ ∀ g' z, PotIs g' p → Kept g g' p → isText (.str z) = true → fit (.str z) = true → P (.d (.str z)) g'
abbrev F__law_text : FT := FL 1 fun g es P => ∃ p, es = [.r (.ref p)] ∧ PotIs g p ∧ ∀ g' z, PotIs g' p → Kept g g' p → isText (.str z) = true → fit (.str z) = true → P (.d (.str z)) g'
abbrev F__law_name : FT := FL 1 fun g es P => ∃ p, es = [.r (.ref p)] ∧ PotIs g p ∧ ∀ g' z, PotIs g' p → Kept g g' p → isName (.str z) = true → fit (.str z) = true → P (.d (.str z)) g'
def accO (wr : Addr) (b n k : Int) : List (Key × EV) := [(.inr "boot", .d (.int b)), (.inr "first", .d (.int n)), (.inr "written", .r (.ref wr)), (.inr "gone", .d (.int k))]
structure AccAt (g : Store) (a wr : Addr) (m : Nat) (b n : Int) (p : List PyData) (ws : List PyData) (k : Nat) : Prop where
  ga : g a = some (.md (accO wr b n (k : Nat)))
  gw : g wr = some (.ml (ws.map .d))
  dr : ws.drop k = p
  le : k ≤ ws.length
  sz : ws.length ≤ m
  ne : a ≠ wr
theorem AccAt.kept {g g' : Store} {a wr q : Addr} {m : Nat} {b n : Int} {p ws : List PyData} {k : Nat} (h : AccAt g a wr m b n p ws k) (t : Kept g g' q) (n1 : a ≠ q) (n2 : wr ≠ q) : AccAt g' a wr m b n p ws k :=
  ⟨by rw [t a n1 (by rw [h.ga]; simp)]; exact h.ga, by rw [t wr n2 (by rw [h.gw]; simp)]; exact h.gw, h.dr, h.le, h.sz, h.ne⟩
abbrev sheetD (b n : Int) (p : List PyData) : PyData := .tuple [.int b, .int n, .tuple p]
theorem edit_put {t : PyData} (h : isText t = true) : isEdit (.tuple [.str "put", t]) = true := (byWord_some (tests := editTests) (w := "put") (ps := [isText]) rfl).trans (by simp [allP, h])
theorem edit_splice {a b t : PyData} (h1 : isCount a = true) (h2 : isCount b = true) (h : isText t = true) : isEdit (.tuple [.str "splice", a, b, t]) = true := (byWord_some (tests := editTests) (w := "splice") (ps := [isCount, isCount, isText]) rfl).trans (by simp [allP, h, h1, h2])
theorem edit_remove : isEdit (.tuple [.str "remove"]) = true := (byWord_some (tests := editTests) (w := "remove") (ps := []) rfl).trans (by simp [allP])
theorem edit_take {t : PyData} (h : isName t = true) : isEdit (.tuple [.str "take", t]) = true := (byWord_some (tests := editTests) (w := "take") (ps := [isName]) rfl).trans (by simp [allP, h])
theorem edit_adopt {a b : PyData} (h1 : isClient a = true) (h2 : isNumber b = true) : isEdit (.tuple [.str "adopt", a, b]) = true := (byWord_some (tests := editTests) (w := "adopt") (ps := [isClient, isNumber]) rfl).trans (by simp [allP, h1, h2])
theorem edit_drop {a b : PyData} (h1 : isClient a = true) (h2 : isNumber b = true) : isEdit (.tuple [.str "drop", a, b]) = true := (byWord_some (tests := editTests) (w := "drop") (ps := [isClient, isNumber]) rfl).trans (by simp [allP, h1, h2])
theorem note_boot : isNote (.tuple [.str "boot"]) = true := (byWord_some (tests := noteTests) (w := "boot") (ps := []) rfl).trans (by simp [allP])
theorem note_write {a b t : PyData} (h1 : isName a = true) (h2 : isBase b = true) (h : isEdit t = true) : isNote (.tuple [.str "write", a, b, t]) = true := (byWord_some (tests := noteTests) (w := "write") (ps := [isName, isBase, isEdit]) rfl).trans (by simp [allP, h, h1, h2])
theorem note_settled {a : PyData} (h1 : isNumber a = true) : isNote (.tuple [.str "settled", a]) = true := (byWord_some (tests := noteTests) (w := "settled") (ps := [isNumber]) rfl).trans (by simp [allP, h1])
theorem note_stand {a : PyData} (h1 : isSheet a = true) : isNote (.tuple [.str "stand", a]) = true := (byWord_some (tests := noteTests) (w := "stand") (ps := [isSheet]) rfl).trans (by simp [allP, h1])
/-- what is pending: numbered without a gap up to n -/
structure RowIs (i : Int) (d : PyData) : Prop where
  ex : ∃ nm bs ed, d = .tuple [.int i, nm, bs, ed] ∧ isName nm = true ∧ isBase bs = true ∧ isEdit ed = true ∧ fit nm = true ∧ fit bs = true ∧ fit ed = true ∧ nm.depth ≤ 2 ∧ bs.depth ≤ 2 ∧ ed.depth ≤ 2
structure Pend (n : Int) (p : List PyData) : Prop where
  pos : 0 ≤ n - p.length
  row : ∀ (k : Nat) (d : PyData), p[k]? = some d → RowIs (n - p.length + 1 + k) d
theorem Pend.nil {n : Int} (h : 0 ≤ n) : Pend n [] := ⟨by simpa using h, fun k d e => by simp at e⟩
theorem depth_mem {x : PyData} : ∀ {ds : List PyData}, x ∈ ds → x.depth ≤ PyData.depthAll ds
  | [], h => by cases h
  | d :: ds, h => by
    simp only [PyData.depthAll]
    rcases List.mem_cons.mp h with rfl | h
    · exact Nat.le_max_left _ _
    · exact Nat.le_trans (depth_mem h) (Nat.le_max_right _ _)
theorem depthAll_le {k : Nat} : ∀ {ds : List PyData}, (∀ d ∈ ds, d.depth ≤ k) → PyData.depthAll ds ≤ k
  | [], _ => by simp [PyData.depthAll]
  | d :: ds, h => by
    simp only [PyData.depthAll]
    have h1 := h d (by simp)
    have h2 := depthAll_le (k := k) (ds := ds) fun x m => h x (by simp [m])
    omega
theorem dataLt_int1 {i j : Int} (h : i < j) : PySem.W.dataLt (.tuple [.int i]) (.tuple [.int j]) = true := by
  have e : PyData.eqv (.int i) (.int j) = false := by simp [PyData.eqv]; omega
  have al : PySem.W.alike (.int i) (.int j) = true := by simp [PySem.W.alike]
  have q := PySem.W.dataLt_all_no (xs := []) (ys := []) al e
  rw [PySem.W.dataLt_int, decide_eq_true h] at q
  exact q
theorem eqvAll_ints : ∀ (ns : List Int), PyData.eqvAll (ns.map .int) (ns.map .int) = true
  | [] => by simp [PyData.eqvAll]
  | n :: ns => by simp [PyData.eqvAll, PyData.eqv, eqvAll_ints ns]
theorem Pend.heads {n : Int} {p : List PyData} (h : Pend n p) : p.map head0 = intsD (n - p.length + 1) (n + 1) := by
  unfold intsD
  apply List.ext_getElem?
  intro k
  rw [List.getElem?_map, List.getElem?_map]
  cases e : p[k]? with
  | none =>
    have hk := List.getElem?_eq_none_iff.mp e
    have : (List.range (n + 1 - (n - p.length + 1)).toNat)[k]? = none := by rw [List.getElem?_eq_none_iff, List.length_range]; omega
    rw [this]; rfl
  | some d =>
    have hk := (List.getElem?_eq_some_iff.mp e).1
    have : (List.range (n + 1 - (n - p.length + 1)).toNat)[k]? = some k := by rw [List.getElem?_range]; omega
    rw [this]
    obtain ⟨nm, bs, ed, rfl, _⟩ := (h.row k d e).ex
    rfl
theorem Pend.sheet {b n : Int} {p : List PyData} (h : Pend n p) (hb : 0 ≤ b) : isSheet (sheetD b n p) = true := by
  have hn : 0 ≤ n := by have := h.pos; omega
  have r1 : p.all (isRow sheetTests) = true := by
    rw [List.all_eq_true]
    intro d hd
    obtain ⟨k, hk, rfl⟩ := List.getElem_of_mem hd
    obtain ⟨nm, bs, ed, e, h1, h2, h3, _⟩ := (h.row k _ (List.getElem?_eq_getElem hk)).ex
    rw [e]
    simp [isRow, allP, h1, h2, h3, isNumber]
    have := h.pos; omega
  have r2 : asc (p.map (cutT 1)) = true := by
    unfold asc
    rw [List.all_eq_true]
    intro k hk
    have hk' := List.mem_range.mp hk
    rw [List.length_map] at hk'
    have e1 := List.getElem?_eq_getElem (l := p) (i := k) (by omega)
    have e2 := List.getElem?_eq_getElem (l := p) (i := k + 1) (by omega)
    obtain ⟨_, _, _, q1, _⟩ := (h.row k _ e1).ex
    obtain ⟨_, _, _, q2, _⟩ := (h.row (k + 1) _ e2).ex
    rw [q1] at e1
    rw [q2] at e2
    unfold ltAt
    rw [List.getElem?_map, List.getElem?_map, e1, e2]
    exact dataLt_int1 (by omega)
  have r3 : numsOk (.int n) (.tuple p) = true := by
    show (decide (1 ≤ n - (p.length : Int) + 1) && PyData.eqv (.list (p.map head0)) (.list (intsD (n - p.length + 1) (n + 1))) || decide ((p.length : Int) = 0)) = true
    rw [h.heads]
    have e : intsD (n - p.length + 1) (n + 1) = ((List.range (n + 1 - (n - p.length + 1)).toNat).map fun i => (n - p.length + 1 + (i : Nat) : Int)).map .int := by unfold intsD; rw [List.map_map]; rfl
    rw [e]
    have e2 := eqvAll_ints ((List.range (n + 1 - (n - p.length + 1)).toNat).map fun i => (n - p.length + 1 + (i : Nat) : Int))
    have e3 : decide ((1 : Int) ≤ n - p.length + 1) = true := decide_eq_true (by have := h.pos; omega)
    simp only [PyData.eqv, e2, e3, Bool.true_and, Bool.true_or]
  simp only [isSheet, isCount, areRows, decide_eq_true hb, decide_eq_true hn, r1, r2, r3, Bool.true_and]
theorem Pend.fit {b n : Int} {p : List PyData} (h : Pend n p) (hb : 0 ≤ b) (hb2 : b ≤ 2 ^ 60) (hn2 : n ≤ 2 ^ 60) (hp : p.length ≤ 1000000) : Dl.fit (sheetD b n p) = true := by
  have hn : 0 ≤ n := by have := h.pos; omega
  have hrow : ∀ d ∈ p, Dl.fit d = true := by
    intro d hd
    obtain ⟨k, hk, rfl⟩ := List.getElem_of_mem hd
    obtain ⟨nm, bs, ed, e, _, _, _, h1, h2, h3, _⟩ := (h.row k _ (List.getElem?_eq_getElem hk)).ex
    rw [e, fit_tup]
    refine ⟨by simp, ?_⟩
    have := h.pos
    have hi : Dl.fit (.int (n - p.length + 1 + k)) = true := fit_int.mpr ⟨by omega, by omega⟩
    intro x hx
    simp only [List.mem_cons, List.not_mem_nil, or_false] at hx
    rcases hx with rfl | rfl | rfl | rfl <;> assumption
  rw [fit_tup]
  refine ⟨by simp, fun x hx => ?_⟩
  simp only [List.mem_cons, List.not_mem_nil, or_false] at hx
  rcases hx with rfl | rfl | rfl
  · exact fit_int.mpr ⟨by omega, by omega⟩
  · exact fit_int.mpr ⟨by omega, by omega⟩
  · exact fit_tup.mpr ⟨hp, hrow⟩
theorem Pend.depth {b n : Int} {p : List PyData} (h : Pend n p) : (sheetD b n p).depth ≤ 5 := by
  have hrow : ∀ d ∈ p, d.depth ≤ 3 := by
    intro d hd
    obtain ⟨k, hk, rfl⟩ := List.getElem_of_mem hd
    obtain ⟨nm, bs, ed, e, _, _, _, _, _, _, h1, h2, h3⟩ := (h.row k _ (List.getElem?_eq_getElem hk)).ex
    rw [e]
    simp only [PyData.depth, PyData.depthAll]
    omega
  have := depthAll_le hrow
  simp only [PyData.depth, PyData.depthAll]
  omega
abbrev F_law : FT := FL 1 fun g es P => ∃ ns : List Int, es = [.d (.list (ns.map .int))] ∧ ns.length ≤ 63 ∧ ∀ g', P (.d (.bool true)) g'
end Dl
set_option Elab.async false
set_option linter.all false
set_option autoImplicit false
set_option maxRecDepth 100000
set_option maxHeartbeats 4000000
namespace Dl
open PySem PySem.Spec PyProof.Rows L2
structure IsDef (K : PySem.W.Frag) (x : Str) (st : Stmt) (f : Addr) : Prop where
  a : PySem.W.nsIn K mainGlobals x = some (some (.ref f))
  k : PySem.W.keepIn K (.ref f) = true
  ex : ∃ (oc : Value) (od an : Option Addr) (osl : Array (Option Value)) (kV doc pm cdv ct : Value), K.lookup f = some ⟨oc, od, .func (PySem.W.fnOf x x (defArgs st) (defBody st) (defScope st) .none kV doc pm an cdv ct), osl⟩ ∧ PySem.W.codeIn K cdv x = true
theorem IsDef.def {K : PySem.W.Frag} {x : Str} {st : Stmt} {f : Addr} (I : IsDef K x st f) : ∃ fd, Fun K x x st f fd := by
  obtain ⟨a, k, oc, od, an, osl, kV, doc, pm, cdv, ct, l, c⟩ := I
  exact ⟨_, fun_mk l c k⟩
theorem IsDef.ne {K : PySem.W.Frag} {x y : Str} {st su : Stmt} {f g : Addr} (I : IsDef K x st f) (J : IsDef K y su g) (h : x ≠ y) : f ≠ g := by
  obtain ⟨a, k, oc, od, an, osl, kV, doc, pm, cdv, ct, l, c⟩ := I
  obtain ⟨a', k', oc', od', an', osl', kV', doc', pm', cdv', ct', l', c'⟩ := J
  intro e
  subst e
  rw [l] at l'
  injection l' with l1
  injection l1 with _ _ l2 _
  injection l2 with l3
  exact h (congrArg FuncData.name l3)
def IsTup (K : PySem.W.Frag) (a : Addr) (its : List Value) : Prop := ∃ od n sl, K.lookup a = some ⟨.type "tuple", od, .seq its.toArray n, sl⟩
theorem IsTup.sq {K : PySem.W.Frag} {a : Addr} {its : List Value} (h : IsTup K a its) {xs : List V} (hz : its.length ≤ 1000) (v : Vals xs its) (H : Hp) : SqT K H a xs := by
  obtain ⟨od, n, sl, l⟩ := h
  exact .inr ⟨_, its.toArray, n, l, rfl, rfl, by simpa using le_line (by omega), by simpa using v⟩
def keysAre : List DictEntry → List Str → Prop
  | [], [] => True
  | e :: r, k :: ks => (∃ t, e.key = .str k t) ∧ keysAre r ks
  | _, _ => False
theorem keysAre_mem : ∀ {es : List DictEntry} {ks : List Str}, keysAre es ks → ∀ e ∈ es, ∃ x t, e.key = .str x t ∧ x ∈ ks
  | [], [], _, e, h => by cases h
  | e :: r, k :: ks, h, e', m => by
    rcases List.mem_cons.mp m with rfl | m
    · obtain ⟨t, q⟩ := h.1
      exact ⟨k, t, q, List.mem_cons_self⟩
    · obtain ⟨x, t, q, hx⟩ := keysAre_mem h.2 e' m
      exact ⟨x, t, q, List.mem_cons_of_mem _ hx⟩
structure IsTab (K : PySem.W.Frag) (w : World) (a : Addr) (ks : List Str) (es : Array DictEntry) (n : Nat) : Prop where
  d : KDict K w a es n
  keys : keysAre es.toList ks
theorem IsTab.no {K : PySem.W.Frag} {w : World} {a : Addr} {ks : List Str} {es : Array DictEntry} {n : Nat} (h : IsTab K w a ks es n) {z : Str} (hz : z ∉ ks) : PySem.W.nsIn K a z = some none := by
  unfold PySem.W.nsIn
  rw [h.d.at_]
  have hm := keysAre_mem h.keys
  have e1 : es.toList.find? (fun e => e.key.isStr z) = none := by
    rw [List.find?_eq_none]
    intro e he q
    obtain ⟨x, t, hx, hk⟩ := hm e he
    rw [hx] at q
    have : x = z := by simpa [Value.isStr] using q
    exact hz (this ▸ hk)
  have e2 : es.toList.any (fun e => e.refKey) = false := by
    rw [List.any_eq_false]
    intro e he q
    obtain ⟨x, t, hx, hk⟩ := hm e he
    unfold DictEntry.refKey at q
    rw [hx] at q
    cases q
  show (match es.toList.find? (fun e => e.key.isStr z) with | some e => some (some e.val) | none => if es.toList.any (fun e => e.refKey) then none else some none) = some none
  rw [e1, e2]
  rfl
theorem IsTab.yes {K : PySem.W.Frag} {w : World} {a : Addr} {ks : List Str} {es : Array DictEntry} {n : Nat} (h : IsTab K w a ks es n) {z : Str} {t : Addr} (hz : PySem.W.nsIn K a z = some (some (.ref t))) : KDct K w a z (.ref t) := ⟨es, n, _, h.d.at_, h.d.lit, hz, rfl⟩
def tabOf (l : List (Addr × (PyData → Bool))) : Tab := fun a => (l.find? fun q => decide (q.1 = a)).map (·.2)
theorem tabOf_pos {f a : Addr} {p : PyData → Bool} {l : List (Addr × (PyData → Bool))} (e : f = a) : tabOf ((f, p) :: l) a = some p := by simp [tabOf, List.find?_cons, e]
theorem tabOf_neg {f a : Addr} {p : PyData → Bool} {l : List (Addr × (PyData → Bool))} (e : f ≠ a) : tabOf ((f, p) :: l) a = tabOf l a := by simp [tabOf, List.find?_cons, e]
theorem tabOf_mem {a : Addr} {p : PyData → Bool} : ∀ {l : List (Addr × (PyData → Bool))}, tabOf l a = some p → (a, p) ∈ l
  | [], h => by simp [tabOf] at h
  | (f, q) :: l, h => by
    by_cases e : f = a
    · rw [tabOf_pos e] at h
      cases h
      rw [e]; exact List.mem_cons_self
    · rw [tabOf_neg e] at h
      exact List.mem_cons_of_mem _ (tabOf_mem h)
section
variable {P : Program} {w : World} {K : PySem.W.Frag} {mg : Str → Option Value} {base : Heap}
theorem held_of {j k : Nat} {x : Str} {f : Addr} {fd : FuncData} {ps : List Str} {pre p : PyData → Bool} (D : L2.Def P w K mg base j x f fd ps (SpF K (FJ pre p))) (hjk : j ≤ k) (hp : ∀ d, fit d = true → pre d = true) : L2.Held P w K mg base k f (SpF K (FJ fit p)) :=
  ⟨fd, ps, (D.ok.mono hjk).imp fun vs H Q E ⟨c, I, g, es, P, e1, e2, e3, ⟨e4, d, e5, e6, e7⟩, e8⟩ => ⟨c, I, g, es, P, e1, e2, e3, ⟨e4, d, e5, hp d e6, e7⟩, e8⟩, D.kp, D.bd⟩
theorem hs_of {k : Nat} {l : List (Addr × (PyData → Bool))} (h : ∀ q ∈ l, L2.Held P w K mg base k q.1 (SpF K (FJ fit q.2))) : ∀ f sp, judgeS K (tabOf l) f = some sp → L2.Held P w K mg base k f sp := fun f sp e => by
  unfold judgeS at e
  cases q : tabOf l f with
  | none => rw [q] at e; cases e
  | some p =>
    rw [q] at e
    cases e
    exact h (f, p) (tabOf_mem q)
theorem def_of {k : Nat} {x : Str} {st : Stmt} {f : Addr} {fd : FuncData} {ps : List Str} {sp : Sp} {h : Heap} (I : IsDef K x st f) (X : K.In h) (G : h.Ns mainGlobals mg) (F : Fun K x x st f fd) (o : FnOk P w K mg base CX0 k f fd ps sp) (b : Binds K fd ps []) : L2.Def P w K mg base k x f fd ps sp :=
  ⟨o, PySem.W.mg_of X G I.a, I.k, b⟩
end
/-- the law's own promise -/
def spLaw (K : PySem.W.Frag) : Sp := fun vs H Q _ => ∃ (a : Addr) (ns : List Int), vs = [.ref a] ∧ SqL K H a (ns.map V.int) ∧ ns.length ≤ 63 ∧ ∀ H', Q (.bl true) H'
theorem spLaw_of {K : PySem.W.Frag} {vs : List V} {H : Hp} {Q : VK} {E : XK} (h : spLaw K vs H Q E) : SpF K F_law vs H Q E := by
  obtain ⟨a, ns, rfl, hS, hl, k⟩ := h
  refine ⟨sC K, H, fun _ => none, [.d (.list (ns.map .int))], fun e g => e = .d (.bool true), rfl, ⟨fun _ _ h => h, fun _ _ e => (by cases e), fun _ m => absurd rfl m⟩, .cons (Dp.lst hS (dpAll_ofInts ns)) .nil, use_FL rfl ⟨ns, rfl, hl, fun g' => rfl⟩, ?_⟩
  rintro v I' H' g' e s ok r rfl
  cases r
  exact k H'
end Dl
set_option Elab.async false
set_option linter.all false
set_option autoImplicit false
set_option maxRecDepth 100000
set_option maxHeartbeats 4000000
namespace Dl
open PySem PySem.Spec PyProof.Rows L2
end Dl
set_option Elab.async false
set_option linter.all false
set_option autoImplicit false
set_option maxRecDepth 100000
set_option maxHeartbeats 4000000
namespace Dl
open PySem PySem.Spec PyProof.Rows L2
theorem op_zinT {X : Cx} {K : PySem.W.Frag} (e : X.K = K := by rfl) : OpR X (compareOp .In) (rIn K false) := by subst e; exact op_in_seq
theorem inV_strs (x : Str) : ∀ zs : List Str, inV (.str x) (zs.map V.str) = decide (x ∈ zs)
  | [] => rfl
  | z :: zs => by
    have ih := inV_strs x zs
    unfold inV at ih ⊢
    rw [List.map_cons, List.any_cons, ih]
    by_cases e : z = x
    · subst e; simp [eqV]
    · have e' : ¬ x = z := fun q => e q.symm
      simp [eqV, e, e']
theorem o_inT {c : Ctx} {g : c.S} {P : EV → c.S → Prop} {x : Str} {ds : List PyData} (zs : List Str) (hd : ds = zs.map .str) (p : P (.d (.bool (decide (x ∈ zs)))) g) : O2 c (rIn c.K false) (.d (.str x)) (.d (.tuple ds)) g P := fun I H xv yv ok rx ry Q k => by
  subst hd
  cases rx
  cases ry with
  | @tup a xs _ hx ax =>
    have e := dpAll_strs ax
    subst e
    refine ⟨a, _, rfl, .inr (ok.ex.seqT hx), rfl, by simp [flatV], ?_⟩
    rw [if_neg (by decide), inV_strs]
    exact k.here (e := .d (.bool _)) ok (Dp.bl _) p
/-- a constant of the module that is a tuple of defs -/
theorem pv_constR {c : Ctx} {ρ : Rho} {g : c.S} {P : EV → c.S → Prop} {a : Addr} {fs : List V} (h : ∀ H, SqT c.K H a fs) (p : P (.rl fs) g) : PV c (tC (.ref a)) ρ g P := fun σ I H ok en Q k => k.here (e := .rl fs) ok ⟨a, rfl, .inr (h I)⟩ p
end Dl
set_option Elab.async false
set_option linter.all false
set_option autoImplicit false
set_option maxRecDepth 100000
set_option maxHeartbeats 4000000
namespace Dl
open PySem PySem.Spec PyProof.Rows L2
end Dl
set_option Elab.async false
set_option linter.all false
set_option autoImplicit false
set_option maxRecDepth 100000
set_option maxHeartbeats 4000000
namespace Dl
open PySem PySem.Spec PyProof.Rows L2
section
variable {K : PySem.W.Frag} {w : World} {g : Store} {P : EV → Store → Prop} {ρ : Rho} {td ty tx tv : TE}
theorem pp_consI {c : Ctx} {g : c.S} {P : List (Key × EV) → c.S → Prop} {i : Int} {r : List (TE × TE)} (h : PV c tv ρ g fun e g1 => PPr c (tPairs r) ρ g1 fun es g2 => P ((.inl i, e) :: es) g2) : PPr c (tPairs ((tC (.int i), tv) :: r)) ρ g P := fun σ I H ok en Q k =>
  h σ I H ok en _ fun v I1 H1 g1 e s1 ok1 r1 p1 => p1 σ I1 H1 ok1 (en.mono s1.im) _ fun kvs I2 H2 g2 es s2 ok2 r2 p2 => k ((.inl i, v) :: kvs) I2 H2 g2 _ (s1.trans s2) ok2 (.cons ⟨rfl, r1.mono s2.im⟩ r2) p2
end
/-- all that stood still stands -/
def Sub (g g' : Store) : Prop := ∀ b, g b ≠ none → g' b = g b
theorem Sub.trans {g g1 g2 : Store} (a : Sub g g1) (b : Sub g1 g2) : Sub g g2 := fun x n => (b x (by rw [a x n]; exact n)).trans (a x n)
theorem Sub.new {g : Store} {q : Addr} {o : MO} (h : g q = none) : Sub g (put g q o) := fun b n => put_ne fun e => n (by rw [e]; exact h)
theorem Sub.kept {g g' : Store} {p : Addr} (h : Sub g g') : Kept g g' p := fun b _ n => h b n
end Dl
set_option Elab.async false
set_option linter.all false
set_option autoImplicit false
set_option maxRecDepth 100000
set_option maxHeartbeats 4000000
namespace L2
open PySem PySem.Spec PyProof.Rows
section
variable {X : Cx} {C : Addr} {bmB : List Value} {B newId initId : String}
/-- X() -/
theorem pmk_own0 {x : Str} {p pos : Pos} (F : ExcBaseFacts B newId initId bmB) (q : PySem.W.excIn X.K C bmB newId = true) (gC : X.mg x = some (.ref C)) (kC : PySem.W.keepIn X.K (.ref C) = true) (r : Raises X (.ref C)) (hg : Gl X x)
    (hdb : (x == ("__debug__" : Str)) = false := by decide) : PMk X (.Call (.Name x p) [] [] pos) (fun _ H Q => Q (.ref C) none H) := by
  intro pins s σ H Q I h
  refine wpAny_Call_Name_kw (ld_glob I hg gC ?_ hdb)
  refine PySem.W.callWith_K0 I.kIn kC ?_
  obtain ⟨bm, N, nm, qn, bs, hdct, sn, sub, ab, col, dd, k0, k1, k2, k3, k5, mN, hC, hN, hni, T⟩ := exc_obj I.kIn q
  refine wpAny_call_exc_subT F T hC hN hni (fun h' e hm => ?_) (Nat.zero_le _)
  exact mk_of I hm r h (I.hok.gone hm.new)
def tRaise0 (C : Addr) (W : WX) : TS := fun _ σ H => W (.ref C) none σ H
/-- what the written part says of an own error class -/
structure ExcD (K : PySem.W.Frag) (mg : Str → Option Value) (x : Str) (C : Addr) : Prop where
  at_ : mg x = some (.ref C)
  ex : PySem.W.excIn K C [.type "ValueError", .type "Exception", .type "BaseException", .type "object"] "ValueError.__new__" = true
  kp : PySem.W.keepIn K (.ref C) = true
  sb : PySem.W.subIn K (.ref C) (.type "BaseException") = some true
  ty : PySem.W.typeIn K (.ref C) = some (.type "type")
  is_ : ExcC K C
theorem ps_raise0 {x : Str} {W : WX} {p pos pos2 : Pos} (hc : X.calm = true) (tk : Takes X W) (T : ExcD X.K X.mg x C) (hg : Gl X x) (hdb : (x == ("__debug__" : Str)) = false := by decide) :
    PS X (.Raise (some (.Call (.Name x p) [] [] pos)) none pos2) (tRaise0 C W) := ps_raise hc tk (pmk_own0 PySem.F.excBase_ValueError T.ex T.at_ T.kp (raises_own T.sb T.ty) hg hdb)
def rIsEX (K : PySem.W.Frag) (a : Addr) (cls : Value) (d : Option Addr) : List V → Hp → VK → Prop := fun xs H Q => ∃ D, cls = .ref D ∧ d = none ∧ ExcC K D ∧ rIsE K D a xs H Q
theorem call_isEX {a : Addr} {oe : Obj} {cls : Value} {d : Option Addr} {pn : List (Addr × Obj)} {K : PySem.W.Frag} (hz : Zc cls d oe) (hf : ∃ vs, oe.data = .fields vs) (e : X.K = K := by rfl) : CallR (X.suite a ((a, oe) :: pn)) (.builtin "isinstance") (rIsEX K a cls d) := by
  subst e
  intro pins s σ H xs us Q I r h
  obtain ⟨D, rfl, rfl, C, h⟩ := h
  exact call_isE C hz hf pins s σ H xs us Q I r h
/-- try: .. except x as n: ..; nothing else leaves the body -/
def tTryAs (K : PySem.W.Frag) (cv : Value) (i : Nat) (tb : WX → TS) (ts : Addr → Value → Option Addr → TS) : TS := fun D σ H => tb (wAs K cv i ts (fun _ _ _ _ => False) D) D σ H
theorem ps_try_asK {x n : Str} {c : Value} {i : Nat} {body suite : List Stmt} {b₀ : Stmt} {np pos pos' : Pos} {tb : WX → TS} {ts : Addr → Value → Option Addr → TS} {K : PySem.W.Frag} (hs : X.stack = X.env :: X.outer) (hf : X.env.frame = some X.env.locals) (hN : X.N.Nodup) (hi : X.N[i]? = some n) (hln : X.env.kindOf n = some .local) (hc : Names X x c)
    (hb : ∀ (W : WX) (pn : List (Addr × Obj)) (xe : Value → Shared → Prop), Takes (X.tr pn xe) W → PassesOwn (model X.prog X.w) X.A X.env xe → PSs (X.tr pn xe) body (tb W))
    (hsu : ∀ (a : Addr) (oe : Obj) (cls : Value) (d : Option Addr) (pn : List (Addr × Obj)), Zc cls d oe → (∃ vs, oe.data = .fields vs) → PSs (X.suite a ((a, oe) :: pn)) (b₀ :: suite) (ts a cls d)) (ek : X.K = K := by rfl) :
    PS X (.Try body [.ExceptHandler (some (.Name x np)) (some n) (b₀ :: suite) pos'] [] [] pos) (tTryAs K c i tb ts) := by
  subst ek
  exact ps_try_as hs hf hN hi hln hc takes0 hb hsu
/-- a def that is called by its name, and may raise -/
structure DefX (P : Program) (w : World) (K : PySem.W.Frag) (mg : Str → Option Value) (base : Heap) (k : Nat) (x : Str) (f : Addr) (fd : FuncData) (ps : List Str) (sp : Sp) : Prop where
  ok : FnOk P w K mg base (L2.CX P w) k f fd ps sp
  at_ : mg x = some (.ref f)
  kp : PySem.W.keepIn K (.ref f) = true
  bd : Binds K fd ps []
end
end L2
namespace Dl
open PySem PySem.Spec PyProof.Rows L2
abbrev FTX := (c : Ctx) → c.S → List EV → (EV → c.S → Prop) → (Value → c.S → Prop) → Prop
abbrev FNX (n : Nat) (F : FTX) : FTX := fun c g es P R => es.length = n ∧ F c g es P R
def EndX (c : Ctx) (I H : Hp) (g : c.S) (R : Value → c.S → Prop) (E : XK) : Prop := ∀ cls I' H' g', Step c I H g I' H' g' → Ok c I' H' g' → R cls g' → E cls none H'
def SpX (K : PySem.W.Frag) (F : FTX) : Sp := fun vs H Q E => ∃ (c : Ctx) (I : Hp) (g : c.S) (es : List EV) (P : EV → c.S → Prop) (R : Value → c.S → Prop), c.K = K ∧ Ok c I H g ∧ Paired (RelE K I) vs es ∧ F c g es P R ∧ End c I H g P Q ∧ EndX c I H g R E
theorem lenX {K : PySem.W.Frag} {F : FTX} {vs : List V} {H : Hp} {Q : VK} {E : XK} {n : Nat} (h : SpX K F vs H Q E) (l : ∀ c g es P R, F c g es P R → es.length = n) : vs.length = n := by
  obtain ⟨c, I, g, es, P, R, _, _, r, hF, _⟩ := h
  rw [paired_len r]; exact l c g es P R hF
section
variable (c : Ctx) (W : WX)
def PVX (te : TE) (ρ : Rho) (g : c.S) (P : EV → c.S → Prop) (R : Value → c.S → Prop) : Prop := ∀ σ I H, Ok c I H g → EnvOk c.K I σ ρ → ∀ Q : VK, End c I H g P Q → EndX c I H g R (WE W σ) → te σ H Q
def PAsX (t : TA) (ρ : Rho) (g : c.S) (P : List EV → c.S → Prop) (R : Value → c.S → Prop) : Prop := ∀ σ I H, Ok c I H g → EnvOk c.K I σ ρ → ∀ Q : List V → Hp → Prop, (∀ vs I' H' g' es, Step c I H g I' H' g' → Ok c I' H' g' → Paired (RelE c.K I') vs es → P es g' → Q vs H') → EndX c I H g R (WE W σ) → t σ H Q
def PStX (t : TS) (ρ : Rho) (g : c.S) (Pn : Rho → c.S → Prop) (Pr : EV → c.S → Prop) (R : Value → Rho → c.S → Prop) : Prop := ∀ σ I H, Ok c I H g → EnvOk c.K I σ ρ → ∀ D : Ends,
  (∀ σ' I' H' g' ρ', Step c I H g I' H' g' → Ok c I' H' g' → EnvOk c.K I' σ' ρ' → Pn ρ' g' → D.nx σ' H') → End c I H g Pr D.rt → (∀ cls σ' I' H' g' ρ', Step c I H g I' H' g' → Ok c I' H' g' → EnvOk c.K I' σ' ρ' → R cls ρ' g' → W cls none σ' H') → t D σ H
end
section
variable {c : Ctx} {W : WX} {ρ : Rho} {g : c.S} {P : EV → c.S → Prop} {R : Value → c.S → Prop} {Pn : Rho → c.S → Prop} {Pr : EV → c.S → Prop} {Rx : Value → Rho → c.S → Prop} {te ta : TE} {tl : TA} {t u : TS} {tc : TT}
theorem EndX.step {I H I' H' : Hp} {g g' : c.S} {E : XK} (k : EndX c I H g R E) (s : Step c I H g I' H' g') : EndX c I' H' g' R E := fun cls I2 H2 g2 s2 ok2 r => k cls I2 H2 g2 (s.trans s2) ok2 r
theorem pvx_lift (h : PV c te ρ g P) : PVX c W te ρ g P R := fun σ I H ok en Q k _ => h σ I H ok en Q k
theorem pvx_call {F : FTX} (h : PAs c tl ρ g fun es g1 => F c g1 es P R) : PVX c W (tCallS (SpX c.K F) (WE W) tl) ρ g P R := fun σ I H ok en Q k x =>
  h σ I H ok en _ fun vs I1 H1 g1 es s1 ok1 r1 p1 => ⟨c, I1, g1, es, P, R, rfl, ok1, r1, p1, fun v I2 H2 g2 e s2 ok2 r2 p2 => k v I2 H2 g2 e (s1.trans s2) ok2 r2 p2, x.step s1⟩
theorem pasx_nil {P : List EV → c.S → Prop} (p : P [] g) : PAsX c W tNil ρ g P R := fun σ I H ok en Q k _ => k [] I H g [] Step.refl ok .nil p
theorem pasx_cons {P : List EV → c.S → Prop} {tr : TA} (h : PVX c W ta ρ g (fun x g1 => PAsX c W tr ρ g1 (fun es g2 => P (x :: es) g2) R) R) : PAsX c W (tCons ta tr) ρ g P R := fun σ I H ok en Q k x =>
  h σ I H ok en _ (fun v I1 H1 g1 e s1 ok1 r1 p1 => p1 σ I1 H1 ok1 (en.mono s1.im) _ (fun us I2 H2 g2 es s2 ok2 r2 p2 => k (v :: us) I2 H2 g2 (e :: es) (s1.trans s2) ok2 (.cons (r1.mono s2.im) r2) p2) (x.step s1)) x
theorem pvx_tup (h : PAsX c W tl ρ g (fun es g1 => ∃ ds, allD es = some ds ∧ ds.length ≤ sizeLine ∧ P (.d (.tuple ds)) g1) R) : PVX c W (tTup tl) ρ g P R := fun σ I H ok en Q k x =>
  h σ I H ok en _ (fun vs I1 H1 g1 es s1 ok1 r1 ⟨ds, e1, hz, p1⟩ => by
    have a := allD_rel r1 e1
    refine ⟨by rw [dpAll_len a]; exact hz, fun p hp => k _ (upd I1 p (.tup vs)) (upd H1 p (.tup vs)) g1 (.d (.tuple ds)) (s1.trans (Step.new ok1 hp)) (ok1.new hp) (.tup (.inl (.inl upd_same)) (dpAll_mono (Ex.new (ok1.free hp)) ds vs a)) p1⟩) x
theorem psx_lift (h : PSt c t ρ g Pn Pr) : PStX c W t ρ g Pn Pr Rx := fun σ I H ok en D kn kr _ => h σ I H ok en D kn kr
theorem psx_seq (h : PStX c W t ρ g (fun ρ1 g1 => PStX c W u ρ1 g1 Pn Pr Rx) Pr Rx) : PStX c W (tSeq t u) ρ g Pn Pr Rx := fun σ I H ok en D kn kr kx =>
  h σ I H ok en { D with nx := u D } (fun σ1 I1 H1 g1 ρ1 s1 ok1 en1 p1 => p1 σ1 I1 H1 ok1 en1 D (fun σ2 I2 H2 g2 ρ2 s2 ok2 en2 p2 => kn σ2 I2 H2 g2 ρ2 (s1.trans s2) ok2 en2 p2) (fun v I2 H2 g2 e s2 ok2 r2 p2 => kr v I2 H2 g2 e (s1.trans s2) ok2 r2 p2) (fun cls σ2 I2 H2 g2 ρ2 s2 ok2 en2 r2 => kx cls σ2 I2 H2 g2 ρ2 (s1.trans s2) ok2 en2 r2)) kr kx
theorem psx_if (h : PB c tc ρ g fun b g1 => if b = true then PStX c W t ρ g1 Pn Pr Rx else PStX c W u ρ g1 Pn Pr Rx) : PStX c W (tIfS tc t u) ρ g Pn Pr Rx := fun σ I H ok en D kn kr kx =>
  h σ I H ok en _ fun b I1 H1 g1 s1 ok1 p1 => by
    cases b with
    | true => exact p1 σ I1 H1 ok1 (en.mono s1.im) D (fun σ2 I2 H2 g2 ρ2 s2 ok2 en2 p2 => kn σ2 I2 H2 g2 ρ2 (s1.trans s2) ok2 en2 p2) (fun v I2 H2 g2 e s2 ok2 r2 p2 => kr v I2 H2 g2 e (s1.trans s2) ok2 r2 p2) (fun cls σ2 I2 H2 g2 ρ2 s2 ok2 en2 r2 => kx cls σ2 I2 H2 g2 ρ2 (s1.trans s2) ok2 en2 r2)
    | false => exact p1 σ I1 H1 ok1 (en.mono s1.im) D (fun σ2 I2 H2 g2 ρ2 s2 ok2 en2 p2 => kn σ2 I2 H2 g2 ρ2 (s1.trans s2) ok2 en2 p2) (fun v I2 H2 g2 e s2 ok2 r2 p2 => kr v I2 H2 g2 e (s1.trans s2) ok2 r2 p2) (fun cls σ2 I2 H2 g2 ρ2 s2 ok2 en2 r2 => kx cls σ2 I2 H2 g2 ρ2 (s1.trans s2) ok2 en2 r2)
theorem psx_raise {C : Addr} (h : Rx (.ref C) ρ g) : PStX c W (tRaise0 C W) ρ g Pn Pr Rx := fun σ I H ok en D kn kr kx => kx (.ref C) σ I H g ρ Step.refl ok en h
theorem psx_set {i : Nat} (h : PVX c W te ρ g (fun e g1 => Pn (ρ.set i (some e)) g1) fun cls g1 => Rx cls ρ g1) : PStX c W (tAsg te (gName i)) ρ g Pn Pr Rx := fun σ I H ok en D kn kr kx =>
  h σ I H ok en _ (fun v I1 H1 g1 e s1 ok1 r1 p1 => kn _ I1 H1 g1 _ s1 ok1 ((en.mono s1.im).set i r1) p1) fun cls I1 H1 g1 s1 ok1 r1 => kx cls σ I1 H1 g1 ρ s1 ok1 (en.mono s1.im) r1
theorem psx_drop (h : PVX c W te ρ g (fun e g1 => Pn ρ g1) fun cls g1 => Rx cls ρ g1) : PStX c W (tDrop te) ρ g Pn Pr Rx := fun σ I H ok en D kn kr kx =>
  h σ I H ok en _ (fun v I1 H1 g1 e s1 ok1 r1 p1 => kn _ I1 H1 g1 _ s1 ok1 (en.mono s1.im) p1) fun cls I1 H1 g1 s1 ok1 r1 => kx cls σ I1 H1 g1 ρ s1 ok1 (en.mono s1.im) r1
theorem EnvOk.unset {K : PySem.W.Frag} {I : Hp} {σ : L2.St} {ρ : Rho} (h : EnvOk K I σ ρ) (i : Nat) : EnvOk K I (σ.set i none) (ρ.set i none) := by
  have := EnvOk.wipe [i] h
  exact this
/-- try: .. except X as n: .. ; every error that leaves the body is one of X -/
theorem ps_tryAs {tb : WX → TS} {ts : Addr → Value → Option Addr → TS} {i : Nat} {cv : Value} {R : Value → Rho → c.S → Prop} (h : ∀ W, PStX c W (tb W) ρ g Pn Pr R)
    (hx : ∀ cls ρ1 g1, R cls ρ1 g1 → PySem.W.exmOne c.K cls cv = some true ∧ ∀ a, PSt c (ts a cls none) (ρ1.set i (some (.r (.ref a)))) g1 (fun ρ2 g2 => Pn (ρ2.set i none) g2) Pr) :
    PSt c (tTryAs c.K cv i tb ts) ρ g Pn Pr := fun σ I H ok en D kn kr =>
  h _ σ I H ok en D kn kr fun cls σ1 I1 H1 g1 ρ1 s1 ok1 en1 r1 => by
    obtain ⟨e, hs⟩ := hx cls ρ1 g1 r1
    refine ⟨true, e, fun _ a ha => ?_, fun z => by cases z⟩
    exact hs a _ I1 H1 ok1 (en1.set i (e := .r (.ref a)) rfl) _ (fun σ2 I2 H2 g2 ρ2 s2 ok2 en2 p2 => kn _ I2 H2 g2 _ (s1.trans s2) ok2 (en2.unset i) p2) (fun v I2 H2 g2 e2 s2 ok2 r2 p2 => kr v I2 H2 g2 e2 (s1.trans s2) ok2 r2 p2)
theorem oc_isE {a D : Addr} {cv : V} {u : Value} {b : Bool} (C : ExcC c.K D) (hcv : ∀ u', RelV cv u' → u' = u) (k1 : PySem.W.kitOne c.K (.ref D) u = some b) (p : P (.d (.bool b)) g) : OC c (rIsEX c.K a (.ref D) none) [.r (.ref a), .r cv] g P := fun I H vs ok r Q k => by
  cases r with
  | cons r1 r =>
    cases r with
    | cons r2 r =>
      cases r
      cases r1
      cases r2
      exact ⟨D, rfl, rfl, C, _, u, b, rfl, hcv, k1, k.here (e := .d (.bool b)) ok (Dp.bl b) p⟩
/-- the run of a body that may raise -/
theorem body_runX {t : WX → TS} {N : List Str} {vs : List V} {H I : Hp} {Q : VK} {E : XK} {es : List EV} (ok : Ok c I H g) (r : Paired (RelE c.K I) vs es) (k : End c I H g P Q) (x : EndX c I H g R E)
    (h : ∀ W, PStX c W (t W) (startR N.length es) g (fun _ g' => P (.d .none) g') P fun cls _ g' => R cls g') : t (fun cls d _ H' => E cls d H') { nx := fun _ H' => Q .non H', rt := Q } (L2.start N vs) H :=
  h _ _ I H ok (env_start r) _ (fun σ' I' H' g' ρ' s' ok' en' p => k _ I' H' g' (.d .none) s' ok' Dp.non p) k fun cls σ' I' H' g' ρ' s' ok' en' r' => x cls I' H' g' s' ok' r'
theorem okX_go {X : Cx} {body : List Stmt} {tb : WX → TS} {N : List Str} {vs : List V} {H I : Hp} {Q : VK} {E : XK} {es : List EV} (tk : Takes X (fun cls d _ H' => E cls d H')) (hd : ∀ W, Takes X W → PSs X body (tb W)) (ok : Ok c I H g) (r : Paired (RelE c.K I) vs es) (k : End c I H g P Q) (x : EndX c I H g R E)
    (h : ∀ W, PStX c W (tb W) (startR N.length es) g (fun _ g' => P (.d .none) g') P fun cls _ g' => R cls g') : ∃ t, PSs X body t ∧ t { nx := fun _ H' => Q .non H', rt := Q } (L2.start N vs) H := ⟨tb _, hd _ tk, body_runX ok r k x h⟩
end
end Dl
set_option Elab.async false
set_option linter.all false
set_option autoImplicit false
set_option maxRecDepth 100000
set_option maxHeartbeats 4000000
namespace HT
open PySem PySem.Spec PyProof.Rows
section
variable {prog : Program} {w : World} {A : Around} {E : Value → Shared → Prop} {s : Shared}
theorem adjust_rev (n : Nat) : Builtin.Slice.sliceAdjust none none (-1) (n : Int) = ((n : Int) - 1, -1) := by
  unfold Builtin.Slice.sliceAdjust
  simp
theorem places_rev (n : Nat) : Builtin.Slice.slicePlaces ((n : Int) - 1) (-1) (-1) = n := by
  unfold Builtin.Slice.slicePlaces
  have h1 : ¬ ((-1 : Int) > 0) := by omega
  simp only [h1, if_false]
  have e : (-(-1) : Int) = 1 := by decide
  rw [e, Int.ediv_one]
  split <;> omega
theorem sliceApplied_rev {sl : Addr} {u : Tok} {n : Nat} {Q : Int × Int × Nat → Shared → Prop} (hs : s.heap.IsSliceOf sl .none .none (.int (-1) u))
    (h : Q ((n : Int) - 1, -1, n) s) : wpAny (model prog w) A (Builtin.Slice.sliceApplied (.ref sl) (pure (n : Int))) Q E s := by
  obtain ⟨os, hos, hcs, hds⟩ := id hs
  unfold Builtin.Slice.sliceApplied Builtin.Slice.sliceFields
  refine wpAny_bind (wpAny_bind (wpAny_field hos hds (x := .none) rfl (wpAny_bind (wpAny_field hos hds (x := .none) rfl (wpAny_bind (wpAny_field hos hds (x := .int (-1) u) rfl (wpAny_pure ?_)))))))
  refine wpAny_bind (slicePart_int ?_)
  show wpAny _ _ (if ((-1 : Int) == 0) = true then _ else _) _ _ s
  rw [if_neg (by decide)]
  refine wpAny_bind (slicePart_none (wpAny_bind (slicePart_none (wpAny_bind (wpAny_pure ?_)))))
  show wpAny _ _ (match Builtin.Slice.sliceAdjust none none (-1) (n : Int) with | (lo, hi) => pure (lo, (-1 : Int), Builtin.Slice.slicePlaces lo hi (-1))) _ _ s
  rw [adjust_rev n]
  show wpAny _ _ (pure ((n : Int) - 1, (-1 : Int), Builtin.Slice.slicePlaces ((n : Int) - 1) (-1) (-1))) _ _ s
  rw [places_rev]
  exact wpAny_pure h
theorem pick_rev (xs : Array Value) : ((List.range xs.size).filterMap fun (m : Nat) => xs[(((xs.size : Int) - 1) + (m : Int) * (-1)).toNat]?).toArray = xs.toList.reverse.toArray := by
  have e : (fun (m : Nat) => xs[(((xs.size : Int) - 1) + (m : Int) * (-1)).toNat]?) = fun m => xs[xs.size - 1 - m]? := by
    funext m
    have : (((xs.size : Int) - 1) + (m : Int) * (-1)).toNat = xs.size - 1 - m := by omega
    rw [this]
  rw [e]
  have e2 : (List.range xs.size).filterMap (fun m => xs[xs.size - 1 - m]?) = ((List.range xs.size).map fun k => xs.size - 1 - k).filterMap (xs[·]?) := by
    rw [List.filterMap_map]; rfl
  rw [e2, PySem.W.krv_range, List.filterMap_reverse, PySem.W.krv_all]
theorem getItem_tuple_rev {t sl : Addr} {items : Array Value} {u : Tok} {Q : Value → Shared → Prop} (ht : IsTup s.heap t items) (hs : s.heap.IsSliceOf sl .none .none (.int (-1) u))
    (h : Q (.ref s.heap.objs.size) { s with heap := s.heap.push { cls := .type "tuple", data := .seq items.toList.reverse.toArray } })
    (hsz : items.size ≤ sizeLine) : wpAny (model prog w) A (getItem (.ref t) (.ref sl)) Q E s := by
  have htake : sizeOk (.seq items.toList.reverse.toArray) := by
    show items.toList.reverse.toArray.size ≤ sizeLine
    rw [List.size_toArray, List.length_reverse, Array.length_toList]
    omega
  obtain ⟨os, hos, hcs, hds⟩ := id hs
  have hTs : s.TypeIs (.ref sl) "slice" := ⟨os, hos, hcs⟩
  unfold getItem
  try with_reducible refine wpAny_holding ?_
  first | refine wpAny_bind (wpAny_pure ?_) | skip
  refine wpAny_bind (wpAny_sequenceKey ht.typeIs (by decide) ?_)
  refine wpAny_bind (wpAny_callSpecial?_slot (name := Str.ofString "__getitem__") ht.typeIs PyProof.Rows.slot_tuple_getitem
    (wpAny_call_entry PyProof.Rows.slot_tuple_getitem ht.typeIs entry_tuple_getitem ?_ (args_tuple_getitem _ _)))
  show wpAny _ _ (Builtin.Tuple.tupleItemsOf (.ref t) >>= _) _ _ s
  refine wpAny_bind (tupleItemsOf_ ht ?_)
  refine wpAny_bind (wpAny_typeOf hTs ?_)
  rw [if_pos (by decide)]
  refine wpAny_bind (sliceApplied_rev hs ?_)
  have hno : ¬ ((((items.size : Int) - 1) == 0 && (-1 : Int) == 1 && items.size == items.size) = true) := by
    intro q
    rw [Bool.and_eq_true, Bool.and_eq_true] at q
    exact absurd q.1.2 (by decide)
  show wpAny _ _ (if (((items.size : Int) - 1) == 0 && (-1 : Int) == 1 && items.size == items.size) = true then _ else _) _ _ s
  rw [if_neg hno, pick_rev]
  first
    | exact wpAny_bind (m := Builtin.Tuple.tupleExact _) (wpAny_newObj_type (wpAny_pure ⟨_, rfl, wpAny_pure h⟩) htake)
    | exact wpAny_bind (m := Builtin.Tuple.tupleExact _) (wpAny_newObj_type (wpAny_bind (wpAny_pure (wpAny_pure ⟨_, rfl, wpAny_pure h⟩))) htake)
    | exact wpAny_bind (wpAny_bind (m := Builtin.Tuple.tupleExact _) (wpAny_newObj_type (wpAny_pure (wpAny_pure ⟨_, rfl, wpAny_pure h⟩)) htake))
    | exact wpAny_bind (wpAny_bind (m := Builtin.Tuple.tupleExact _) (wpAny_newObj_type (wpAny_pure ⟨_, rfl, wpAny_pure h⟩) htake))
end
end HT
namespace L2
open PySem PySem.Spec PyProof.Rows
section
variable {X : Cx}
/-- x[::-1] of a list or a tuple -/
def tRevA (K : PySem.W.Frag) (te : TE) : TE := fun σ H Q => te σ H fun x H1 => ∃ a xs, x = .ref a ∧ ((SqL K H1 a xs ∧ ∀ p, H1 p = none → Q (.ref p) (upd H1 p (.lst xs.reverse))) ∨ (SqT K H1 a xs ∧ ∀ p, H1 p = none → Q (.ref p) (upd H1 p (.tup xs.reverse))))
theorem pe_revA {e : Expr} {te : TE} {k : Nat} {p1 p2 p3 pos : Pos} (he : PE X e te) : PE X (.Subscript e (.Slice none none (some (.UnaryOp .USub (.Constant (.int 1) k p1) p2)) p3) pos) (tRevA X.K te) := by
  refine ⟨fun pins s σ H Q I h => ?_⟩
  refine Subscript_ (thn (he.run pins s σ H _ I h) fun v s1 ⟨x, H1, I1, r1, q1⟩ => ?_)
  obtain ⟨a, xs, ex, hx⟩ := q1
  subst ex
  cases r1
  have hst : PO X (some (.UnaryOp .USub (.Constant (.int 1) k p1) p2)) (tPart (tUn (rU fun i => .int (-i)) (tC (.int 1)))) := po_some (pe_un un_neg pe_int)
  refine wpAny_Slice (thn (po_none.run pins s1 σ H1 (fun o H2 => o = none ∧ H2 = H1) I1 ⟨rfl, rfl⟩) fun vl s2 ⟨l, H2, I2, pl, el, e2⟩ => ?_)
  subst el e2
  refine thn (po_none.run pins s2 σ H2 (fun o H3 => o = none ∧ H3 = H2) I2 ⟨rfl, rfl⟩) fun vu s3 ⟨u, H3, I3, pu, eu, e3⟩ => ?_
  subst eu e3
  refine thn (hst.run pins s3 σ H3 (fun o H4 => o = some (-1) ∧ H4 = H3) I3 ⟨1, rfl, -1, rfl, rfl, rfl⟩) fun vs s4 ⟨o, H4, I4, ps, eo, e4⟩ => ?_
  subst eo e4
  have I5 : Inv X pins σ H4 { s4 with heap := s4.heap.push { cls := .type "slice", data := .fields #[vl, vu, vs] } } := I4.kept (t' := s4.toks) fun b ob q => Heap.get?_push_of_some _ q
  rcases hx with ⟨hx, q⟩ | ⟨hx, q⟩
  · obtain ⟨its, r, ht, hz⟩ := I5.list hx
    have hlen := r.length
    show wpAny (model X.prog X.w) X.A (subscriptTail e (.Slice none none (some (.UnaryOp .USub (.Constant (.int 1) k p1) p2)) p3) (.ref a) (.ref s4.heap.objs.size)) (EP X pins σ Q) X.xe { s4 with heap := s4.heap.push { cls := .type "slice", data := .fields #[vl, vu, vs] } }
    refine tail_any (ops := [.ref a, .ref s4.heap.objs.size]) ht.isList.typeIs (PySem.slot_list_getitem.lookup) ?_ (by with_unfolding_all rfl)
    refine wpAny_getItem_list_slice ht.isList (Heap.IsSliceOf.new _ vl vu vs) pl pu ps (by decide) ?_ (by rw [List.size_toArray]; omega)
    rw [PySem.W.krv_pick]
    refine ⟨.ref _, _, I5.laid (t' := s4.toks) (o := .lst xs.reverse) (fun b ob q => Heap.get?_push_of_some _ q) (Nat.le_refl _) ?_, rfl, q _ (I5.hok.fresh (Nat.le_refl _))⟩
    exact ⟨by rw [List.length_reverse]; exact hz, _, 0, r.reverse, Heap.get?_push_size _ rfl⟩
  · obtain ⟨its, r, ht, hz⟩ := I5.tuple hx
    have hlen := r.length
    cases pl
    cases pu
    cases ps with
    | int _ u =>
    show wpAny (model X.prog X.w) X.A (subscriptTail e (.Slice none none (some (.UnaryOp .USub (.Constant (.int 1) k p1) p2)) p3) (.ref a) (.ref s4.heap.objs.size)) (EP X pins σ Q) X.xe { s4 with heap := s4.heap.push { cls := .type "slice", data := .fields #[.none, .none, .int (-1) u] } }
    refine tail_any (ops := [.ref a, .ref s4.heap.objs.size]) ht.typeIs (PyProof.Rows.slot_tuple_getitem.lookup) ?_ (by with_unfolding_all rfl)
    refine HT.getItem_tuple_rev ht (Heap.IsSliceOf.new _ _ _ _) ?_ (by rw [List.size_toArray]; omega)
    refine ⟨.ref _, _, I5.laid (t' := s4.toks) (o := .tup xs.reverse) (fun b ob q => Heap.get?_push_of_some _ q) (Nat.le_refl _) ?_, rfl, q _ (I5.hok.fresh (Nat.le_refl _))⟩
    exact ⟨by rw [List.length_reverse]; exact hz, _, r.reverse, _, Heap.get?_push_size _ rfl, rfl, 0, rfl⟩
/-- l.count(x), of data -/
def rCountD (K : PySem.W.Frag) : V → List V → Hp → VK → Prop := fun x xs H Q => ∃ (a : Addr) (y : V) (d : PyData) (ds : List PyData), x = V.ref a ∧ xs = [y] ∧ Dp K H (V.ref a) (.list ds) ∧ Dp K H y d ∧
  SeqAt.shaped (.list ds) = true ∧ SeqAt.shaped d = true ∧ Q (.int (ds.countP fun z => PyData.eqv z d : Nat)) H
theorem mt_countD {K : PySem.W.Frag} (hu : X.A.units + 65 < cLine) (e : X.K = K := by rfl) : MtR X "list.count" (rCountD K) := by
  subst e
  intro pins s σ H x xs v us Q I rx rxs h
  obtain ⟨a, y, d, ds, rfl, rfl, hl, hy, sl, sd, q⟩ := h
  cases rx
  cases rxs with
  | cons ry rt =>
    rename_i uy ut
    cases rt
    obtain ⟨bs, r1⟩ := Dp.reads I d y uy hy ry
    have hxs : PyData.canLayAll0 ds = true := SeqAt.canLay_of_shaped sl
    have hroom : X.A.units + 1 + min (PyData.depthAll ds) d.depth < cLine := room_in_shaped sd hu
    cases hl with
    | lst hs ha =>
      obtain ⟨its, rv, ⟨⟨cls, dd, data, sls⟩, n, ho, hc, hdn, hdt⟩, hlen⟩ := I.list hs
      simp only at hc hdt
      subst hc hdt
      obtain ⟨as, h4⟩ := Dp.readsAll I ds _ its ha rv
      have hmap : its.map (SeqAt.readOf s.heap) = ds := SeqAt.readsAll_map ds its as hxs h4
      refine call_meets PySem.F.slot_list_count ⟨_, ho, rfl⟩ PySem.F.entry_list_count (PySem.F.args_list_count_2 _ _)
        (SeqAt.list_countAt a its.toArray n dd sls uy (fun u => PyData.eqv (SeqAt.readOf s.heap u) d)) ⟨ho, SeqAt.items_eqAt (vs := its.toArray) (show ReadsAll s.heap its.toArray.toList ds as from h4) r1 hxs (SeqAt.canLay_of_shaped sd) hroom, ?_⟩
      have ec : its.toArray.toList.countP (fun u => PyData.eqv (SeqAt.readOf s.heap u) d) = ds.countP fun z => PyData.eqv z d := by
        rw [← hmap, List.countP_map]; rfl
      refine ⟨.int (ds.countP fun z => PyData.eqv z d : Nat), H, I.tok _, ⟨s.toks, ?_⟩, q⟩
      show Value.int ((its.toArray.toList.countP (fun u => PyData.eqv (SeqAt.readOf s.heap u) d) : Nat) : Int) s.toks = _
      rw [ec]
end
end L2
namespace Dl
open PySem PySem.Spec PyProof.Rows L2
section
variable {c : Ctx} {ρ : Rho} {g : c.S} {P : EV → c.S → Prop} {te : TE} {tl : TA}
theorem dpAll_reverse {K : PySem.W.Frag} {H : Hp} : ∀ {ds : List PyData} {vs : List V}, DpAll K H vs ds → DpAll K H vs.reverse ds.reverse
  | [], _, h => by cases h; exact .nil
  | d :: ds, _, h => by
    cases h with
    | cons h1 h2 => rw [List.reverse_cons, List.reverse_cons]; exact dpAll_append (dpAll_reverse h2) (.cons h1 .nil)
theorem pv_revA (h : PV c te ρ g fun e g1 => (∃ ds, e = .d (.tuple ds) ∧ P (.d (.tuple ds.reverse)) g1) ∨ ∃ ds, e = .d (.list ds) ∧ P (.d (.list ds.reverse)) g1) : PV c (tRevA c.K te) ρ g P := fun σ I H ok en Q k =>
  h σ I H ok en _ fun v I1 H1 g1 e s1 ok1 r1 p1 => by
    rcases p1 with ⟨ds, rfl, p1⟩ | ⟨ds, rfl, p1⟩
    · cases r1 with
      | @tup a xs _ hx ax =>
        exact ⟨a, xs, rfl, .inr ⟨ok1.ex.seqT hx, fun q hq => k _ (upd I1 q (.tup xs.reverse)) _ g1 (.d (.tuple ds.reverse)) (s1.trans (Step.new ok1 hq)) (ok1.new hq) (Dp.tup (.inl (.inl upd_same)) (dpAll_mono (Ex.new (ok1.free hq)) _ _ (dpAll_reverse ax))) p1⟩⟩
    · cases r1 with
      | @lst a xs _ hx ax =>
        exact ⟨a, xs, rfl, .inl ⟨ok1.ex.seqL hx, fun q hq => k _ (upd I1 q (.lst xs.reverse)) _ g1 (.d (.list ds.reverse)) (s1.trans (Step.new ok1 hq)) (ok1.new hq) (Dp.lst (.inl (.inl upd_same)) (dpAll_mono (Ex.new (ok1.free hq)) _ _ (dpAll_reverse ax))) p1⟩⟩
/-- {} as data -/
theorem pv_dnewD (p : P (.d (.dict [])) g) : PV c tDNewK ρ g P := fun σ I H ok en Q k q hq =>
  k _ (upd I q (.dK [])) _ g (.d (.dict [])) (Step.new ok hq) (ok.new hq) (Dp.dct (es := []) upd_same rfl .nil) p
theorem merge_nodup : ∀ (kvs acc : List (Key × V)), (acc.map (·.1) ++ kvs.map (·.1)).Nodup → mergeK acc kvs = acc ++ kvs
  | [], acc, _ => by simp [mergeK]
  | (k, v) :: r, acc, h => by
    have hk : k ∉ acc.map (·.1) := fun m => by
      rw [List.map_cons, List.nodup_append] at h
      exact h.2.2 k m k List.mem_cons_self rfl
    have e : putK acc k v = acc ++ [(k, v)] := by
      unfold putK
      rw [if_neg]
      rw [List.any_eq_true]
      rintro ⟨x, mx, ex⟩
      exact hk (List.mem_map.mpr ⟨x, mx, of_decide_eq_true ex⟩)
    have : mergeK acc ((k, v) :: r) = mergeK (putK acc k v) r := rfl
    rw [this, e, merge_nodup r (acc ++ [(k, v)]) (by simpa using h)]
    simp
theorem Ok.over {I H : Hp} {p : Addr} {o : HO} (k : Ok c I H g) (hI : I p = none) (hM : ¬ c.M g p) : Ok c (upd I p o) (upd H p o) g :=
  ⟨fun a u e => by
    by_cases z : a = p
    · rw [z, upd_same] at e ⊢; exact e
    · rw [upd_ne z] at e ⊢; exact k.ex a u e, c.jm g I _ H _ k.j (Ex.new hI) fun a m => upd_ne fun e => hM (e ▸ m), fun a m => by
    have ne : a ≠ p := fun e => hM (e ▸ m)
    rw [upd_ne ne]; exact k.out a m⟩
theorem relP_keys {K : PySem.W.Frag} {I : Hp} : ∀ {kvs : List (Key × V)} {es : List (Key × EV)}, Paired (RelP K I) kvs es → kvs.map (·.1) = es.map (·.1) ∧ Paired (RelE K I) (kvs.map (·.2)) (es.map (·.2))
  | _, _, .nil => ⟨rfl, .nil⟩
  | _, _, .cons h t => by
    obtain ⟨h1, h2⟩ := relP_keys t
    exact ⟨by rw [List.map_cons, List.map_cons, h1, h.1], .cons h.2 h2⟩
/-- a dict display that is data -/
theorem pv_dispD {trs : List (TE × TE)} (h : PPr c (tPairs trs) ρ g fun es g1 => ∃ ds, allD (es.map (·.2)) = some ds ∧ es.length ≤ 15 ∧ (es.map (·.1)).Nodup ∧ P (.d (.dict ((es.map (kd ·.1)).zip ds))) g1) : PV c (tDisp trs) ρ g P := fun σ I H ok en Q k p hp => by
  refine h σ I (upd H p (.dK [])) (ok.grow hp) en _ fun kvs I1 H1 g1 es s1 ok1 r1 ⟨ds, e1, hl, nd, p1⟩ => ?_
  have hMg : ¬ c.M g p := fun m => c.mh g I H p ok.j m hp
  have hH1 := s1.keep p _ upd_same hMg
  have hMg1 : ¬ c.M g1 p := fun m => (s1.mm p m).elim hMg fun e => by rw [upd_same] at e; cases e
  have hI1 : I1 p = none := s1.out p _ upd_same rfl (ok.free hp) hMg
  obtain ⟨k1, k2⟩ := relP_keys r1
  have hlen := paired_len r1
  have hds : ds.length = es.length := by
    have a := allD_rel k2 e1
    have := dpAll_len a
    simp at this
    omega
  have hx : Ex I1 (upd I1 p (.dK kvs)) := Ex.new hI1
  refine ⟨hH1, kvs, rfl, by omega, ?_⟩
  rw [merge_nodup kvs [] (by simpa [k1] using nd), List.nil_append]
  refine k _ (upd I1 p (.dK kvs)) _ g1 (.d (.dict ((es.map (kd ·.1)).zip ds))) ⟨s1.im.trans hx, fun a o e n => ?_, fun a o e t n m => ?_, fun a m => ?_, fun a n => ?_⟩ (ok1.over hI1 hMg1) (Dp.dct (es := kvs) upd_same ?_ ?_) p1
  · have ne : a ≠ p := fun z => by rw [z, hp] at e; cases e
    rw [upd_ne ne]
    exact s1.keep a o (by rw [upd_ne ne]; exact e) n
  · have ne : a ≠ p := fun z => by rw [z, hp] at e; cases e
    rw [upd_ne ne]
    exact s1.out a o (by rw [upd_ne ne]; exact e) t n m
  · rcases s1.mm a m with q | q
    · exact .inl q
    · have ne : a ≠ p := fun z => by rw [z, upd_same] at q; cases q
      rw [upd_ne ne] at q
      exact .inr q
  · by_cases z : a = p
    · rw [z, upd_same]; simp
    · rw [upd_ne z]
      exact s1.there a (by rw [upd_ne z]; exact n)
  · rw [List.map_fst_zip (by simp; omega)]
    have : kvs.map (fun x => kd x.1) = (kvs.map (·.1)).map kd := by rw [List.map_map]; rfl
    rw [this, k1, List.map_map]; rfl
  · rw [List.map_snd_zip (by simp; omega)]
    exact dpAll_mono hx _ _ (allD_rel k2 e1)
end
end Dl
set_option Elab.async false
set_option linter.all false
set_option autoImplicit false
set_option maxRecDepth 100000
set_option maxHeartbeats 4000000
namespace L2
open PySem PySem.Spec PyProof.Rows
theorem pe_bmK {X : Cx} {K : PySem.W.Frag} {o e : Expr} {es : List Expr} {to : TE} {t : TA} {name : Str} {apos cpos : Pos} {T id : String} {r : V → List V → Hp → VK → Prop} (pa : PlainAttrs T) (slot : Slot T name id) (hty : typeOf (.builtin id) = pure (.type "method_descriptor")) (hm : MtR X id r) (ho : PE X o to) (ha : PA X (e :: es) t)
    (ek : X.K = K := by rfl)
    (hbase : attributeBase o name X.env (eval o X.env) = eval o X.env := by rfl)
    (hfew : ((backTo cpos (starEach (e :: es) X.env)).all (fun x => !x.1) && (backToKw cpos (keywordEach [] X.env)).all (fun x => x.1.isSome)
      && decide ((e :: es).length + ([] : List Keyword).length + (if ([] : List Keyword).isEmpty then 0 else 1) < 30)) = true := by rfl)
    (hline : (apos.endLine == cpos.line) = true := by rfl) (hs : starEach (e :: es) X.env = (false, eval e X.env) :: starEach es X.env := by rfl) (hplain : (backTo cpos (starEach es X.env)).any (·.1) = false := by rfl) :
    PE X (.Call (.Attribute o name apos) (e :: es) [] cpos) (tBM K T r to t) := by
  subst ek
  exact pe_bm pa slot hty hm ho ha hbase hfew hline hs hplain
end L2
namespace Dl
open PySem PySem.Spec PyProof.Rows L2
theorem hu65 {k : Nat} {A : Around} (r : Room k A) : A.units + 65 < cLine := by have := r.un; omega
section
variable {c : Ctx} {ρ : Rho} {g : c.S} {P : EV → c.S → Prop} {te : TE} {tl : TA}
theorem pv_countD (h : PV c te ρ g fun e g1 => ∃ ds, e = .d (.list ds) ∧ PAs c tl ρ g1 fun es g2 => ∃ d, es = [.d d] ∧ (PyData.list ds).canLay0 = true ∧ (PyData.list ds).depth ≤ 64 ∧ d.canLay0 = true ∧ d.depth ≤ 64 ∧ P (.d (.int (ds.countP fun z => PyData.eqv z d : Nat))) g2) :
    PV c (tBM c.K "list" (rCountD c.K) te tl) ρ g P := fun σ I H ok en Q k =>
  h σ I H ok en _ fun v I1 H1 g1 e s1 ok1 r1 ⟨ds, e1, p1⟩ => by
    subst e1
    cases r1 with
    | @lst a xs _ hx ax =>
      refine ⟨.inl ⟨rfl, xs, ok1.ex.seqL hx⟩, p1 σ I1 H1 ok1 (en.mono s1.im) _ fun us I2 H2 g2 es s2 ok2 r2 ⟨d, e2, l1, d1, l2, d2, p2⟩ => ?_⟩
      subst e2
      obtain ⟨u, e3, r3⟩ := one_of r2
      subst e3
      have q : Dp c.K H2 (.ref a) (.list ds) := dp_of ok2 (dp_mono s2.im _ _ (Dp.lst hx ax))
      exact ⟨a, u, d, ds, rfl, rfl, q.kit (noD_of_lay l1), (dp_of ok2 r3).kit (noD_of_lay l2), shaped_of l1 d1, shaped_of l2 d2, k _ I2 H2 g2 (.d (.int _)) (s1.trans s2) ok2 (Dp.int _) p2⟩
theorem pv_indexD (h : PV c te ρ g fun e g1 => ∃ ds, e = .d (.list ds) ∧ PAs c tl ρ g1 fun es g2 => ∃ (d z : PyData) (j : Nat), es = [.d d] ∧ (PyData.list ds).canLay0 = true ∧ (PyData.list ds).depth ≤ 64 ∧ d.canLay0 = true ∧ d.depth ≤ 64 ∧ ds[j]? = some z ∧ PyData.eqv z d = true ∧ (∀ (m : Nat) (z' : PyData), m < j → ds[m]? = some z' → PyData.eqv z' d = false) ∧ P (.d (.int (j : Nat))) g2) :
    PV c (tBM c.K "list" (rIndexD c.K) te tl) ρ g P := fun σ I H ok en Q k =>
  h σ I H ok en _ fun v I1 H1 g1 e s1 ok1 r1 ⟨ds, e1, p1⟩ => by
    subst e1
    cases r1 with
    | @lst a xs _ hx ax =>
      refine ⟨.inl ⟨rfl, xs, ok1.ex.seqL hx⟩, p1 σ I1 H1 ok1 (en.mono s1.im) _ fun us I2 H2 g2 es s2 ok2 r2 ⟨d, z, j, e2, l1, d1, l2, d2, hz, he, hn, p2⟩ => ?_⟩
      subst e2
      obtain ⟨u, e3, r3⟩ := one_of r2
      subst e3
      have q : Dp c.K H2 (.ref a) (.list ds) := dp_of ok2 (dp_mono s2.im _ _ (Dp.lst hx ax))
      exact ⟨a, u, d, ds, j, z, rfl, rfl, q.kit (noD_of_lay l1), (dp_of ok2 r3).kit (noD_of_lay l2), shaped_of l1 d1, shaped_of l2 d2, hz, he, hn, k _ I2 H2 g2 (.d (.int _)) (s1.trans s2) ok2 (Dp.int _) p2⟩
theorem pv_upper (h : PV c te ρ g fun e g1 => ∃ x, e = .d (.str x) ∧ x.length ≤ 1000000 ∧ P (.d (.str (Txt.upper x))) g1) :
    PV c (tBM0 c.K "str" (fun x xs H Q => ∃ a, x = .str a ∧ xs = [] ∧ a.length ≤ 5592405 ∧ Q (.str (Txt.upper a)) H) te) ρ g P := fun σ I H ok en Q k =>
  h σ I H ok en _ fun v I1 H1 g1 e s1 ok1 r1 ⟨x, e1, hx, p1⟩ => by
    subst e1
    cases r1
    exact ⟨rfl, x, rfl, rfl, by omega, k _ I1 H1 g1 (.d (.str _)) s1 ok1 (Dp.str _) p1⟩
theorem mt_indexZ {X : Cx} {K : PySem.W.Frag} (hu : X.A.units + 65 < cLine) (e : X.K = K := by rfl) : MtR X "list.index" (rIndexD K) := by subst e; exact mt_indexD hu
end
end Dl
set_option Elab.async false
set_option linter.all false
set_option autoImplicit false
set_option maxRecDepth 100000
set_option maxHeartbeats 4000000
namespace Dl
open PySem PySem.Spec PyProof.Rows L2
abbrev F_check_sheetX (C : Addr) : FTX := FNX 1 fun c g es P R => ∃ d, es = [.d d] ∧ fit d = true ∧ (isSheet d = true → P (.d .none) g) ∧ (isSheet d = false → R (.ref C) g)
abbrev F_noted_behindX (CS CN : Addr) : FTX := FNX 2 fun c g es P R => ∃ sh d, es = [.d sh, .d d] ∧ fit sh = true ∧ fit d = true ∧ (isSheet sh = false → R (.ref CS) g) ∧ (isSheet sh = true → isNote d = false → R (.ref CN) g) ∧ (isSheet sh = true → isNote d = true → P (.d (noted sh d)) g)
end Dl
set_option Elab.async false
set_option linter.all false
set_option autoImplicit false
set_option maxRecDepth 100000
set_option maxHeartbeats 4000000
namespace Dl
open PySem PySem.Spec PyProof.Rows L2
def flatX : PyData → Bool | .int _ => true | .str _ => true | _ => false
theorem flat_depth {x : PyData} (h : flatX x = true) : x.depth = 0 := by cases x <;> first | cases h; done | simp [PyData.depth]
theorem flat_noD {x : PyData} (h : flatX x = true) : noD x = true := by cases x <;> first | (rw [noD] <;> simp; done) | cases h
theorem allP_flat : ∀ {r : List PyData} {ps : List (PyData → Bool)}, allP r ps = true → (∀ p ∈ ps, ∀ x, p x = true → flatX x = true) → ∀ x ∈ r, flatX x = true
  | [], _, _, _, _, m => by cases m
  | d :: r, [], h, _, _, _ => by simp [allP] at h
  | d :: r, p :: ps, h, k, x, m => by
    rw [allP, Bool.and_eq_true] at h
    rcases List.mem_cons.mp m with rfl | m
    · exact k p List.mem_cons_self _ h.1
    · exact allP_flat h.2 (fun q mq => k q (List.mem_cons_of_mem _ mq)) x m
theorem flat_name {x : PyData} (h : isName x = true) : flatX x = true := by cases x <;> first | rfl | cases h
theorem flat_text {x : PyData} (h : isText x = true) : flatX x = true := by cases x <;> first | rfl | cases h
theorem flat_count {x : PyData} (h : isCount x = true) : flatX x = true := by cases x <;> first | rfl | cases h
theorem flat_number {x : PyData} (h : isNumber x = true) : flatX x = true := by cases x <;> first | rfl | cases h
theorem flat_client {x : PyData} (h : isClient x = true) : flatX x = true := by cases x <;> first | rfl | cases h
theorem edit_shape {d : PyData} (h : isEdit d = true) : ∃ w r, d = .tuple (.str w :: r) ∧ r.length ≤ 3 ∧ ∀ x ∈ r, flatX x = true := by
  unfold isEdit byWord at h
  split at h
  · rename_i w r
    refine ⟨w, r, rfl, ?_⟩
    split at h
    · rename_i ps e
      have key : ps.length ≤ 3 ∧ ∀ p ∈ ps, ∀ x, p x = true → flatX x = true := by
        unfold editTests at e
        split at e
        · cases e; exact ⟨by simp, by simp only [List.mem_cons, List.not_mem_nil, or_false]; rintro p rfl x; exact flat_text⟩
        split at e
        · cases e
          refine ⟨by simp, fun p mp x hx => ?_⟩
          simp only [List.mem_cons, List.not_mem_nil, or_false] at mp
          rcases mp with rfl | rfl | rfl
          · exact flat_count hx
          · exact flat_count hx
          · exact flat_text hx
        split at e
        · cases e; exact ⟨by simp, by simp⟩
        split at e
        · cases e; exact ⟨by simp, by simp only [List.mem_cons, List.not_mem_nil, or_false]; rintro p rfl x; exact flat_name⟩
        split at e
        · cases e
          refine ⟨by simp, fun p mp x hx => ?_⟩
          simp only [List.mem_cons, List.not_mem_nil, or_false] at mp
          rcases mp with rfl | rfl
          · exact flat_client hx
          · exact flat_number hx
        split at e
        · cases e
          refine ⟨by simp, fun p mp x hx => ?_⟩
          simp only [List.mem_cons, List.not_mem_nil, or_false] at mp
          rcases mp with rfl | rfl
          · exact flat_client hx
          · exact flat_number hx
        · cases e
      exact ⟨by rw [allP_len h]; exact key.1, allP_flat h key.2⟩
    · cases h
  · cases h
theorem base_shape {d : PyData} (h : isBase d = true) : d = .none ∨ ∃ a b n, d = .tuple [.int a, .int b, .int n] := by
  cases d with
  | none => exact .inl rfl
  | tuple xs =>
    refine .inr ?_
    have h' : isStamp (.tuple xs) = true := h
    unfold isStamp at h'
    split at h'
    · rename_i a b n e
      cases e
      exact ⟨a, b, n, rfl⟩
    · cases h'
  | _ => cases h
theorem name_depth {d : PyData} (h : isName d = true) : d.depth = 0 := flat_depth (flat_name h)
theorem base_depth {d : PyData} (h : isBase d = true) : d.depth ≤ 1 := by
  rcases base_shape h with rfl | ⟨a, b, n, rfl⟩ <;> simp [PyData.depth, PyData.depthAll]
theorem edit_depth {d : PyData} (h : isEdit d = true) : d.depth ≤ 1 := by
  obtain ⟨w, r, rfl, _, hr⟩ := edit_shape h
  have : PyData.depthAll (.str w :: r) ≤ 0 := depthAll_le fun x m => by
    rcases List.mem_cons.mp m with rfl | m
    · simp [PyData.depth]
    · rw [flat_depth (hr x m)]; exact Nat.le_refl _
  simp only [PyData.depth]
  omega
theorem base_noD {d : PyData} (h : isBase d = true) : noD d = true := by
  rcases base_shape h with rfl | ⟨a, b, n, rfl⟩ <;> simp [noD, noDAll]
theorem edit_noD {d : PyData} (h : isEdit d = true) : noD d = true := by
  obtain ⟨w, r, rfl, _, hr⟩ := edit_shape h
  exact noD_tup.mpr fun x m => by
    rcases List.mem_cons.mp m with rfl | m
    · rw [noD] <;> simp
    · exact flat_noD (hr x m)
/-- a row of what is pending -/
def rowOk (i : Int) : PyData → Bool
  | .tuple [.int m, nm, bs, ed] => decide (1 ≤ m) && decide (m = i) && isName nm && isBase bs && isEdit ed
  | _ => false
theorem rowOk_of {i : Int} {d : PyData} (h : rowOk i d = true) : ∃ nm bs ed, d = .tuple [.int i, nm, bs, ed] ∧ 1 ≤ i ∧ isName nm = true ∧ isBase bs = true ∧ isEdit ed = true := by
  unfold rowOk at h
  split at h
  · simp only [Bool.and_eq_true, decide_eq_true_eq] at h
    obtain ⟨⟨⟨⟨h1, h2⟩, h3⟩, h4⟩, h5⟩ := h
    subst h2
    exact ⟨_, _, _, rfl, h1, h3, h4, h5⟩
  · cases h
def rowsOkAt : Int → List PyData → Bool
  | _, [] => true
  | f, x :: r => rowOk f x && rowsOkAt (f + 1) r
theorem rowsOkAt_get : ∀ {p : List PyData} {f : Int}, rowsOkAt f p = true → ∀ (k : Nat) (d : PyData), p[k]? = some d → rowOk (f + k) d = true
  | [], _, _, k, d, e => by simp at e
  | x :: r, f, h, 0, d, e => by
    rw [rowsOkAt, Bool.and_eq_true] at h
    simp at e; subst e
    simpa using h.1
  | x :: r, f, h, k + 1, d, e => by
    rw [rowsOkAt, Bool.and_eq_true] at h
    have := rowsOkAt_get h.2 k d (by simpa using e)
    have e2 : f + 1 + (k : Int) = f + ((k + 1 : Nat) : Int) := by omega
    rwa [e2] at this
theorem rowsOkAt_of : ∀ {p : List PyData} {f : Int}, (∀ (k : Nat) (d : PyData), p[k]? = some d → rowOk (f + k) d = true) → rowsOkAt f p = true
  | [], _, _ => rfl
  | x :: r, f, h => by
    rw [rowsOkAt, Bool.and_eq_true]
    refine ⟨by simpa using h 0 x rfl, rowsOkAt_of fun k d e => ?_⟩
    have := h (k + 1) d (by simpa using e)
    have e2 : f + 1 + (k : Int) = f + ((k + 1 : Nat) : Int) := by omega
    rwa [e2]
theorem eqvAll_intsL : ∀ {xs : List PyData} {ns : List Int}, (∀ x ∈ xs, ∃ i, x = .int i) → PyData.eqvAll xs (ns.map .int) = true → xs = ns.map .int
  | [], [], _, _ => rfl
  | [], _ :: _, _, h => by simp [PyData.eqvAll] at h
  | _ :: _, [], _, h => by simp [PyData.eqvAll] at h
  | x :: xs, n :: ns, hx, h => by
    obtain ⟨i, rfl⟩ := hx x List.mem_cons_self
    rw [List.map_cons, PySem.W.eqv_all_cons, Bool.and_eq_true] at h
    have e : i = n := by simpa [PyData.eqv] using h.1
    rw [List.map_cons, e, eqvAll_intsL (fun y m => hx y (List.mem_cons_of_mem _ m)) h.2]
theorem rows_of_sheet {b N : Int} {p : List PyData} (h : isSheet (.tuple [.int b, .int N, .tuple p]) = true) : rowsOkAt (N - p.length + 1) p = true := by
  unfold isSheet at h
  simp only [Bool.and_eq_true] at h
  obtain ⟨⟨h1, h2⟩, h3, h4⟩ := h
  rw [areRows, Bool.and_eq_true] at h3
  cases p with
  | nil => rfl
  | cons x r =>
    unfold numsOk at h4
    rw [Bool.or_eq_true] at h4
    rcases h4 with h4 | h4
    · rw [Bool.and_eq_true, decide_eq_true_eq] at h4
      obtain ⟨h5, h6⟩ := h4
      have hd := rowsOk_head h3.1
      have e : (x :: r).map head0 = intsD (N - ((x :: r).length : Nat) + 1) (N + 1) := by
        have hi : intsD (N - ((x :: r).length : Nat) + 1) (N + 1) = ((List.range (N + 1 - (N - ((x :: r).length : Nat) + 1)).toNat).map fun i => (N - ((x :: r).length : Nat) + 1 + (i : Nat) : Int)).map .int := by
          unfold intsD; rw [List.map_map]; rfl
        rw [hi] at h6 ⊢
        refine eqvAll_intsL (fun y m => ?_) (by rw [PyData.eqv] at h6; exact h6)
        obtain ⟨z, mz, rfl⟩ := List.mem_map.mp m
        obtain ⟨i, xs, rfl, _⟩ := hd z mz
        exact ⟨i, rfl⟩
      refine rowsOkAt_of fun k d ek => ?_
      have md := List.mem_of_getElem? ek
      obtain ⟨xs, rfl, hp⟩ := row_of (List.all_eq_true.mp h3.1 d md)
      obtain ⟨m, nm, bs, ed, rfl, q1, q2, q3, q4⟩ : ∃ m nm bs ed, xs = [.int m, nm, bs, ed] ∧ 1 ≤ m ∧ isName nm = true ∧ isBase bs = true ∧ isEdit ed = true := by
        have hl := allP_len hp
        match xs, hl with
        | [a, b, c, d], _ =>
          simp only [allP, Bool.and_eq_true, and_true] at hp
          obtain ⟨m, rfl, hm⟩ := num_of hp.1
          exact ⟨m, b, c, d, rfl, hm, hp.2.1, hp.2.2.1, hp.2.2.2⟩
      have e1 : ((x :: r).map head0)[k]? = some (.int m) := by rw [List.getElem?_map, ek]; rfl
      rw [e] at e1
      unfold intsD at e1
      rw [List.getElem?_map] at e1
      cases e2 : (List.range (N + 1 - (N - ((x :: r).length : Nat) + 1)).toNat)[k]? with
      | none => rw [e2] at e1; cases e1
      | some j =>
        rw [e2] at e1
        have hj : j = k := by
          obtain ⟨hk, e3⟩ := List.getElem?_eq_some_iff.mp e2
          rw [List.getElem_range] at e3
          exact e3.symm
        subst hj
        have em : N - ((x :: r).length : Nat) + 1 + (j : Nat) = m := by simpa using e1
        rw [em]
        simp only [rowOk, q2, q3, q4, decide_eq_true q1, decide_true, Bool.and_true]
    · simp at h4
      omega
theorem sheet_of_rows {b N : Int} {p : List PyData} (hb : 0 ≤ b) (hN : 0 ≤ N) (hf : fit (.tuple p) = true) (h : rowsOkAt (N - p.length + 1) p = true) : isSheet (.tuple [.int b, .int N, .tuple p]) = true := by
  refine Pend.sheet (b := b) (n := N) ⟨?_, fun k d e => ?_⟩ hb
  · cases p with
    | nil => simpa using hN
    | cons x r =>
      obtain ⟨_, _, _, _, h1, _⟩ := rowOk_of (rowsOkAt_get h 0 x rfl)
      simp at h1 ⊢
      omega
  · obtain ⟨nm, bs, ed, rfl, h1, h2, h3, h4⟩ := rowOk_of (rowsOkAt_get h k d e)
    have hfd := (fit_tup.mp ((fit_tup.mp hf).2 _ (List.mem_of_getElem? e))).2
    exact ⟨nm, bs, ed, rfl, h2, h3, h4, hfd _ (by simp), hfd _ (by simp), hfd _ (by simp), by rw [name_depth h2]; omega, by have := base_depth h3; omega, by have := edit_depth h4; omega⟩
theorem sheet_shape {d : PyData} (h : isSheet d = true) : ∃ b N p, d = .tuple [.int b, .int N, .tuple p] ∧ 0 ≤ b ∧ 0 ≤ N ∧ rowsOkAt (N - p.length + 1) p = true := by
  obtain ⟨b, N, p, rfl, _⟩ := sheet_of h
  refine ⟨b, N, p, rfl, ?_, ?_, rows_of_sheet h⟩
  · simp only [isSheet, isCount, Bool.and_eq_true, decide_eq_true_eq] at h; exact h.1.1
  · simp only [isSheet, isCount, Bool.and_eq_true, decide_eq_true_eq] at h; exact h.1.2
theorem row_noD {i : Int} {d : PyData} (h : rowOk i d = true) : noD d = true ∧ d.depth ≤ 2 := by
  obtain ⟨nm, bs, ed, rfl, _, h2, h3, h4⟩ := rowOk_of h
  have e1 := name_depth h2
  have e2 := base_depth h3
  have e3 := edit_depth h4
  refine ⟨?_, ?_⟩
  · simp [noD, noDAll, flat_noD (flat_name h2), base_noD h3, edit_noD h4]
  · have : PyData.depthAll [.int i, nm, bs, ed] ≤ 1 := depthAll_le fun x m => by
      simp only [List.mem_cons, List.not_mem_nil, or_false] at m
      rcases m with rfl | rfl | rfl | rfl
      · simp [PyData.depth]
      all_goals omega
    simp only [PyData.depth]; omega
theorem rows_noD {f : Int} {p : List PyData} (h : rowsOkAt f p = true) : noD (.tuple p) = true ∧ (PyData.tuple p).depth ≤ 3 := by
  have key : ∀ x ∈ p, noD x = true ∧ x.depth ≤ 2 := fun x m => by
    obtain ⟨k, hk, rfl⟩ := List.getElem_of_mem m
    exact row_noD (rowsOkAt_get h k _ (List.getElem?_eq_getElem hk))
  refine ⟨noD_tup.mpr fun x m => (key x m).1, ?_⟩
  have : PyData.depthAll p ≤ 2 := depthAll_le fun x m => (key x m).2
  simp only [PyData.depth]; omega
theorem sheet_noD {d : PyData} (h : isSheet d = true) : noD d = true ∧ d.depth ≤ 4 := by
  obtain ⟨b, N, p, rfl, _, _, hr⟩ := sheet_shape h
  obtain ⟨h1, h2⟩ := rows_noD hr
  refine ⟨?_, ?_⟩
  · simp [noD, noDAll] at h1 ⊢; exact h1
  · have : PyData.depthAll [.int b, .int N, .tuple p] ≤ 3 := depthAll_le fun x m => by
      simp only [List.mem_cons, List.not_mem_nil, or_false] at m
      rcases m with rfl | rfl | rfl
      · simp [PyData.depth]
      · simp [PyData.depth]
      · exact h2
    simp only [PyData.depth] at this ⊢; omega
end Dl
set_option Elab.async false
set_option linter.all false
set_option autoImplicit false
set_option maxRecDepth 100000
set_option maxHeartbeats 4000000
namespace Dl
open PySem PySem.Spec PyProof.Rows L2
mutual
/-- none, whole numbers, texts, tuples of these, of bounded sizes -/
def gd (L : Nat) (B : Int) : PyData → Bool
  | .none => true
  | .int i => decide (-B ≤ i) && decide (i ≤ B)
  | .str x => decide (x.length ≤ L)
  | .tuple xs => decide (xs.length ≤ L) && gdAll L B xs
  | _ => false
def gdAll (L : Nat) (B : Int) : List PyData → Bool
  | [] => true
  | x :: xs => gd L B x && gdAll L B xs
end
mutual
/-- anything of bounded sizes -/
def sm (L : Nat) (B : Int) : PyData → Bool
  | .int i => decide (-B ≤ i) && decide (i ≤ B)
  | .str x => decide (x.length ≤ L)
  | .tuple xs => decide (xs.length ≤ L) && smAll L B xs
  | .list xs => decide (xs.length ≤ L) && smAll L B xs
  | _ => true
def smAll (L : Nat) (B : Int) : List PyData → Bool
  | [] => true
  | x :: xs => sm L B x && smAll L B xs
end
section
variable {L L' : Nat} {B B' : Int}
theorem gdAll_iff : ∀ {xs : List PyData}, gdAll L B xs = true ↔ ∀ x ∈ xs, gd L B x = true
  | [] => by simp [gdAll]
  | x :: xs => by rw [gdAll, Bool.and_eq_true, gdAll_iff (xs := xs)]; simp
theorem smAll_iff : ∀ {xs : List PyData}, smAll L B xs = true ↔ ∀ x ∈ xs, sm L B x = true
  | [] => by simp [smAll]
  | x :: xs => by rw [smAll, Bool.and_eq_true, smAll_iff (xs := xs)]; simp
theorem gd_tup {xs : List PyData} : gd L B (.tuple xs) = true ↔ xs.length ≤ L ∧ ∀ x ∈ xs, gd L B x = true := by rw [gd, Bool.and_eq_true, decide_eq_true_eq, gdAll_iff]
theorem sm_tup {xs : List PyData} : sm L B (.tuple xs) = true ↔ xs.length ≤ L ∧ ∀ x ∈ xs, sm L B x = true := by rw [sm, Bool.and_eq_true, decide_eq_true_eq, smAll_iff]
theorem sm_lst {xs : List PyData} : sm L B (.list xs) = true ↔ xs.length ≤ L ∧ ∀ x ∈ xs, sm L B x = true := by rw [sm, Bool.and_eq_true, decide_eq_true_eq, smAll_iff]
theorem gd_int {i : Int} : gd L B (.int i) = true ↔ -B ≤ i ∧ i ≤ B := by rw [gd, Bool.and_eq_true, decide_eq_true_eq, decide_eq_true_eq]
theorem sm_int {i : Int} : sm L B (.int i) = true ↔ -B ≤ i ∧ i ≤ B := by rw [sm, Bool.and_eq_true, decide_eq_true_eq, decide_eq_true_eq]
theorem gd_str {x : Str} : gd L B (.str x) = true ↔ x.length ≤ L := by rw [gd, decide_eq_true_eq]
theorem sm_str {x : Str} : sm L B (.str x) = true ↔ x.length ≤ L := by rw [sm, decide_eq_true_eq]
mutual
theorem sm_of_gd (hL : L ≤ L') (hB : B ≤ B') : ∀ {d : PyData}, gd L B d = true → sm L' B' d = true
  | .none, _ => by rw [sm] <;> simp
  | .int i, h => by rw [gd_int] at h; rw [sm_int]; omega
  | .str x, h => by rw [gd_str] at h; rw [sm_str]; omega
  | .tuple xs, h => by
    rw [gd, Bool.and_eq_true, decide_eq_true_eq] at h
    rw [sm, Bool.and_eq_true, decide_eq_true_eq]
    exact ⟨by omega, smAll_of_gdAll hL hB h.2⟩
  | .bool _, h => by simp [gd] at h
  | .list _, h => by simp [gd] at h
  | .dict _, h => by simp [gd] at h
theorem smAll_of_gdAll (hL : L ≤ L') (hB : B ≤ B') : ∀ {xs : List PyData}, gdAll L B xs = true → smAll L' B' xs = true
  | [], _ => by rw [smAll]
  | x :: xs, h => by
    rw [gdAll, Bool.and_eq_true] at h
    rw [smAll, sm_of_gd hL hB h.1, smAll_of_gdAll hL hB h.2]; rfl
end
mutual
theorem sm_mono (hL : L ≤ L') (hB : B ≤ B') : ∀ {d : PyData}, sm L B d = true → sm L' B' d = true
  | .none, _ => by rw [sm] <;> simp
  | .bool _, _ => by rw [sm] <;> simp
  | .dict _, _ => by rw [sm] <;> simp
  | .int i, h => by rw [sm_int] at h ⊢; omega
  | .str x, h => by rw [sm_str] at h ⊢; omega
  | .tuple xs, h => by
    rw [sm, Bool.and_eq_true, decide_eq_true_eq] at h ⊢
    exact ⟨by omega, smAll_mono hL hB h.2⟩
  | .list xs, h => by
    rw [sm, Bool.and_eq_true, decide_eq_true_eq] at h ⊢
    exact ⟨by omega, smAll_mono hL hB h.2⟩
theorem smAll_mono (hL : L ≤ L') (hB : B ≤ B') : ∀ {xs : List PyData}, smAll L B xs = true → smAll L' B' xs = true
  | [], _ => by rw [smAll]
  | x :: xs, h => by
    rw [smAll, Bool.and_eq_true] at h
    rw [smAll, sm_mono hL hB h.1, smAll_mono hL hB h.2]; rfl
end
mutual
theorem fit_of_sm (hL : L ≤ 1000000) (hB : B ≤ 2 ^ 61) : ∀ {d : PyData}, sm L B d = true → fit d = true
  | .none, _ => by rw [fit] <;> simp
  | .bool _, _ => by rw [fit] <;> simp
  | .dict _, _ => by rw [fit]
  | .int i, h => by rw [sm_int] at h; rw [fit_int]; omega
  | .str x, h => by rw [sm_str] at h; rw [fit_str]; exact ⟨by omega, trivial⟩
  | .tuple xs, h => by
    rw [sm, Bool.and_eq_true, decide_eq_true_eq] at h
    rw [fit, Bool.and_eq_true, decide_eq_true_eq]
    exact ⟨by omega, fitAll_of_sm hL hB h.2⟩
  | .list xs, h => by
    rw [sm, Bool.and_eq_true, decide_eq_true_eq] at h
    rw [fit, Bool.and_eq_true, decide_eq_true_eq]
    exact ⟨by omega, fitAll_of_sm hL hB h.2⟩
theorem fitAll_of_sm (hL : L ≤ 1000000) (hB : B ≤ 2 ^ 61) : ∀ {xs : List PyData}, smAll L B xs = true → fitAll xs = true
  | [], _ => by rw [fitAll]
  | x :: xs, h => by
    rw [smAll, Bool.and_eq_true] at h
    rw [fitAll, fit_of_sm hL hB h.1, fitAll_of_sm hL hB h.2]; rfl
end
end
abbrev B12 : Int := 1000000000000
mutual
theorem gd_mono {L : Nat} {B B' : Int} (hB : B ≤ B') : ∀ {d : PyData}, gd L B d = true → gd L B' d = true
  | .none, _ => by rw [gd] <;> simp
  | .int i, h => by rw [gd_int] at h ⊢; omega
  | .str x, h => by rw [gd_str] at h ⊢; omega
  | .tuple xs, h => by
    rw [gd, Bool.and_eq_true, decide_eq_true_eq] at h ⊢
    exact ⟨by omega, gdAll_mono hB h.2⟩
  | .bool _, h => by simp [gd] at h
  | .list _, h => by simp [gd] at h
  | .dict _, h => by simp [gd] at h
theorem gdAll_mono {L : Nat} {B B' : Int} (hB : B ≤ B') : ∀ {xs : List PyData}, gdAll L B xs = true → gdAll L B' xs = true
  | [], _ => by rw [gdAll]
  | x :: xs, h => by
    rw [gdAll, Bool.and_eq_true] at h
    rw [gdAll, gd_mono hB h.1, gdAll_mono hB h.2]; rfl
end
abbrev B5 : Int := 500000000000
def GdS (d : PyData) : Prop := isSheet d = true ∧ gd 100 B5 d = true ∧ d.depth ≤ 4
/-- a good thing, as it is drawn -/
def Gd (p : PyData → Bool) (k : Nat) (d : PyData) : Prop := p d = true ∧ gd 100 B5 d = true ∧ d.depth ≤ k
def GdN (d : PyData) : Prop := isNote d = true ∧ gd 100 B12 d = true ∧ d.depth ≤ 5
abbrev FPd (G : PyData → Prop) : FT := FL 1 fun g es P => ∃ p, es = [.r (.ref p)] ∧ PotIs g p ∧ ∀ g' d, PotIs g' p → Kept g g' p → G d → P (.d d) g'
abbrev F_note : FT := FL 2 fun g es P => ∃ p s, es = [.r (.ref p), .d s] ∧ PotIs g p ∧ GdS s ∧ ∀ g' d, PotIs g' p → Kept g g' p → GdN d → P (.d d) g'
abbrev F_bent (k : Nat) : FT := FL 2 fun g es P => ∃ p d, es = [.r (.ref p), .d d] ∧ PotIs g p ∧ gd 100 B12 d = true ∧ d.depth < k ∧ ∀ g' x, PotIs g' p → Kept g g' p → sm 300 (B12 + 1) x = true → P (.d x) g'
abbrev F_flag : FT := FN 2 fun c g es P => ∃ a b : Bool, es = [.d (.bool a), .d (.bool b)] ∧ P (.d (.bool (decide (a = b)))) g
abbrev F_behindS : FT := FN 2 fun c g es P => ∃ sh d, es = [.d sh, .d d] ∧ isSheet sh = true ∧ isNote d = true ∧ fit sh = true ∧ P (.d (noted sh d)) g
/-- what the law tells of a call: the sheet, or the word of the error -/
def wordD (sh d : PyData) : PyData := if isSheet sh = true then (if isNote d = true then .tuple [.str "told", noted sh d] else .tuple [.str "note"]) else .tuple [.str "sheet"]
abbrev F_word : FT := FN 2 fun c g es P => ∃ sh d, es = [.d sh, .d d] ∧ fit sh = true ∧ fit d = true ∧ P (.d (wordD sh d)) g
abbrev F_isS (k : Nat) : FT := FN 2 fun c g es P => ∃ d, es = [.d d, .d d] ∧ fit d = true ∧ noD d = true ∧ d.depth < k ∧ P (.d (.bool true)) g
def isGe (k : Int) : PyData → Bool | .int i => decide (k ≤ i) | _ => false
abbrev F_is_int : FT := FN 2 fun c g es P => ∃ d k, es = [.d d, .d (.int k)] ∧ P (.d (.bool (isGe k d))) g
theorem ps_un4 {c : Ctx} {ρ : Rho} {g : c.S} {te : TE} {i j l m : Nat} {Pn : Rho → c.S → Prop} {Pr : EV → c.S → Prop} (h : PV c te ρ g fun e g1 => ∃ x y z u, e = .d (.tuple [x, y, z, u]) ∧ Pn ((((ρ.set i (some (.d x))).set j (some (.d y))).set l (some (.d z))).set m (some (.d u))) g1) :
    PSt c (tAsg te (gTup c.K 4 (gCons (gName i) (gCons (gName j) (gCons (gName l) (gCons (gName m) gNil)))))) ρ g Pn Pr := fun σ I H ok en D kn kr =>
  h σ I H ok en _ fun v I1 H1 g1 e s1 ok1 r1 ⟨x, y, z, u, e1, p1⟩ => by
    subst e1
    cases r1 with
    | @tup a xs _ hx ax =>
      cases ax with
      | cons h1 ax =>
        cases ax with
        | cons h2 ax =>
          cases ax with
          | cons h3 ax =>
            cases ax with
            | cons h4 ax =>
              cases ax
              exact ⟨a, _, rfl, ok1.ex.seqT hx, rfl, _, _, rfl, _, _, rfl, _, _, rfl, _, _, rfl, rfl, kn _ I1 H1 g1 _ s1 ok1 (((((en.mono s1.im).set i (e := .d x) h1).set j (e := .d y) h2).set l (e := .d z) h3).set m (e := .d u) h4) p1⟩
end Dl
namespace Dl
open PySem PySem.Spec PyProof.Rows L2
theorem len_text {z : Str} (h : isText (.str z) = true) : z.length ≤ 96 := by
  simp only [isText, Bool.and_eq_true, decide_eq_true_eq] at h; omega
theorem len_name {z : Str} (h : isName (.str z) = true) : z.length ≤ 8 := by
  simp only [isName, Bool.and_eq_true, decide_eq_true_eq] at h; omega
theorem gd_word {L : Nat} {B : Int} {z : Str} (h : gd L B (.str z) = true) {r : List PyData} (hl : r.length < L) (hr : ∀ x ∈ r, gd L B x = true) : gd L B (.tuple (.str z :: r)) = true := by
  rw [gd_tup]
  refine ⟨by rw [List.length_cons]; omega, fun x m => ?_⟩
  rcases List.mem_cons.mp m with rfl | m
  · exact h
  · exact hr x m
end Dl
set_option Elab.async false
set_option linter.all false
set_option autoImplicit false
set_option maxRecDepth 100000
set_option maxHeartbeats 4000000
namespace Dl
open PySem PySem.Spec PyProof.Rows L2
def rMulS : R2 := fun x y H Q => ∃ (z : Str) (k : Int), x = .str z ∧ y = .int k ∧ MulOk z k ∧ Q (.str (Txt.mul z k)) H
theorem op_mulS {X : Cx} : OpR X (binaryOp .Mult) rMulS := by
  intro pins s σ H x y v u Q I rx ry h
  obtain ⟨z, k, rfl, rfl, hok, q⟩ := h
  obtain ⟨t, rfl⟩ := rx
  obtain ⟨t', rfl⟩ := ry
  exact SB.mul hok fun t2 k2 => ⟨.str (Txt.mul z k), H, I.tok _, ⟨_, rfl⟩, q⟩
theorem o_mulS {c : Ctx} {g : c.S} {P : EV → c.S → Prop} {z : Str} {k : Int} (hok : MulOk z k) (p : P (.d (.str (Txt.mul z k))) g) : O2 c rMulS (.d (.str z)) (.d (.int k)) g P := fun I H xv yv ok rx ry Q q => by
  cases rx
  cases ry
  exact ⟨z, k, rfl, rfl, hok, q.here (e := .d (.str _)) ok (Dp.str _) p⟩
theorem mulOk_small {z : Str} {k : Nat} (hz : z.length ≤ 1000) (hk : k ≤ 1000) : MulOk z (k : Int) := by
  refine ⟨?_, fun h0 h1 h2 => ?_, fun h0 h1 => ?_⟩
  · rw [decide_eq_false (by omega), decide_eq_false (by omega)]; rfl
  · have k0 : (0 : Int) < k := by omega
    have : (1000 : Int) ≤ (2 ^ 63 - 1) / (k : Int) := by
      rw [Int.le_ediv_iff_mul_le k0]; omega
    omega
  · have : z.length * k ≤ 1000 * 1000 := Nat.mul_le_mul hz hk
    rw [Int.toNat_natCast]
    show decide (z.length * k > sizeLine) = false
    exact decide_eq_false (by have : (1000 * 1000 : Nat) ≤ sizeLine := le_line (Nat.le_of_ble_eq_true rfl); omega)
theorem cut_mem {xs : List PyData} {lo hi : Option Int} : ∀ x ∈ cutD xs lo hi, x ∈ xs := fun x m => List.mem_of_mem_drop (List.mem_of_mem_take m)
theorem cut_len {xs : List PyData} {lo hi : Option Int} : (cutD xs lo hi).length ≤ xs.length := by
  show ((xs.drop _).take _).length ≤ _
  rw [List.length_take, List.length_drop]
  omega
theorem cutS_len {z : Str} {lo hi : Option Int} : (cutS z lo hi).length ≤ z.length := by
  show ((z.cps.toList.drop _).take _).toArray.size ≤ z.cps.size
  rw [List.size_toArray, List.length_take, List.length_drop, Array.length_toList]
  omega
abbrev SM (x : PyData) : Prop := sm 300 (B12 + 1) x = true
theorem sm_word {z : Str} (h : z.length ≤ 300) : SM (.str z) := sm_str.mpr h
/-- what stands in the place of a part, whatever it was -/
def bentL : List PyData := [.none, .bool true, .bool false, .int (-1), .int 0, .int 1, .int 10, .str "", .str "A", .str "put", .str "boot", .str "aaaaaaaaa", .str (Txt.mul "x" 97), .tuple [], .list [], .dict [], .tuple [.int 0, .int 0, .int 0], .tuple [.int 1, .int 0, .int 1]]
theorem bentL_sm : ∀ x ∈ bentL, SM x := by decide +kernel
end Dl
set_option Elab.async false
set_option linter.all false
set_option autoImplicit false
set_option maxRecDepth 100000
set_option maxHeartbeats 4000000
namespace L2
open PySem PySem.Spec PyProof.Rows
section
variable {X : Cx}
/-- t == () -/
def rEqT0 (K : PySem.W.Frag) : R2 := fun x y H Q => ∃ a b xs, x = .ref a ∧ y = .ref b ∧ SqT K H a xs ∧ SqT K H b [] ∧ Q (.bl (decide (xs.length = 0))) H
theorem op_eqT0 (hu : X.A.units + 64 < cLine) : OpR X (compareOp .Eq) (rEqT0 X.K) := by
  intro pins s σ H x y v u Q I rx ry h
  obtain ⟨a, b, xs, rfl, rfl, ha, hb, q⟩ := h
  cases rx
  cases ry
  obtain ⟨its, r1, p1, _⟩ := I.tuple ha
  obtain ⟨its2, r2, p2, _⟩ := I.tuple hb
  cases r2
  have e : ((List.range (min its.toArray.size (([] : List Value).toArray).size)).all (fun _ => true) && its.toArray.size == (([] : List Value).toArray).size) = decide (xs.length = 0) := by
    rw [r1.length]
    cases its <;> simp
  refine SeqAt.eq_tupleAt (e := fun _ => true) p1 p2 (by omega) (fun j h1 h2 => absurd h2 (by simp)) ?_
  rw [e]
  exact ⟨.bl _, H, I, rfl, q⟩
/-- t != () -/
def rNeT0 (K : PySem.W.Frag) : R2 := fun x y H Q => ∃ a b xs, x = .ref a ∧ y = .ref b ∧ SqT K H a xs ∧ SqT K H b [] ∧ Q (.bl (!decide (xs.length = 0))) H
theorem op_neT0 (hu : X.A.units + 64 < cLine) : OpR X (compareOp .NotEq) (rNeT0 X.K) := by
  intro pins s σ H x y v u Q I rx ry h
  obtain ⟨a, b, xs, rfl, rfl, ha, hb, q⟩ := h
  cases rx
  cases ry
  obtain ⟨its, r1, p1, _⟩ := I.tuple ha
  obtain ⟨its2, r2, p2, _⟩ := I.tuple hb
  cases r2
  have e : (!((List.range (min its.toArray.size (([] : List Value).toArray).size)).all (fun _ => true) && its.toArray.size == (([] : List Value).toArray).size)) = !decide (xs.length = 0) := by
    rw [r1.length]
    cases its <;> simp
  refine SeqAt.RcNeAt.tuples (e := fun _ => true) p1 p2 (by omega) (fun j h1 h2 => absurd h2 (by simp)) _ _ _ _ ?_
  rw [e]
  exact ⟨.bl _, H, I, rfl, q⟩
end
end L2
namespace Dl
open PySem PySem.Spec PyProof.Rows L2
def zEqE (K : PySem.W.Frag) : R2 := fun x y H Q => rEqT0 K x y H Q
theorem op_zeqE {X : Cx} {K : PySem.W.Frag} (hu : X.A.units + 64 < cLine) (e : X.K = K := by rfl) : OpR X (compareOp .Eq) (zEqE K) := by subst e; exact op_eqT0 hu
def zNeE (K : PySem.W.Frag) : R2 := fun x y H Q => rNeT0 K x y H Q
theorem op_zneE {X : Cx} {K : PySem.W.Frag} (hu : X.A.units + 64 < cLine) (e : X.K = K := by rfl) : OpR X (compareOp .NotEq) (zNeE K) := by subst e; exact op_neT0 hu
section
variable {c : Ctx} {g : c.S} {P : EV → c.S → Prop}
theorem o_eqE {ds : List PyData} (p : P (.d (.bool (decide (ds.length = 0)))) g) : O2 c (zEqE c.K) (.d (.tuple ds)) (.d (.tuple [])) g P := fun I H xv yv ok rx ry Q k => by
  cases rx with
  | @tup a xs _ hx ax =>
    cases ry with
    | @tup b ys _ hy ay =>
      cases ay
      exact ⟨a, b, xs, rfl, rfl, ok.ex.seqT hx, ok.ex.seqT hy, k.here (e := .d (.bool _)) ok (by rw [dpAll_len ax]; exact Dp.bl _) p⟩
theorem o_neE {ds : List PyData} (p : P (.d (.bool (!decide (ds.length = 0)))) g) : O2 c (zNeE c.K) (.d (.tuple ds)) (.d (.tuple [])) g P := fun I H xv yv ok rx ry Q k => by
  cases rx with
  | @tup a xs _ hx ax =>
    cases ry with
    | @tup b ys _ hy ay =>
      cases ay
      exact ⟨a, b, xs, rfl, rfl, ok.ex.seqT hx, ok.ex.seqT hy, k.here (e := .d (.bool _)) ok (by rw [dpAll_len ax]; exact Dp.bl _) p⟩
end
theorem low_lo (n : Nat) : (!decide ((⟨#[n]⟩ : Str).cps.toList < (Str.ofString "a").cps.toList)) = decide (97 ≤ n) := by
  have e : (Str.ofString "a").cps.toList = [97] := by decide +kernel
  rw [e]
  have : (([n] : List Nat) < [97]) ↔ n < 97 := by rw [List.cons_lt_cons_iff]; simp
  by_cases h : n < 97
  · rw [decide_eq_true (this.mpr h), decide_eq_false (by omega)]; rfl
  · rw [decide_eq_false (fun q => h (this.mp q)), decide_eq_true (by omega)]; rfl
theorem low_hi (n : Nat) : (!decide ((Str.ofString "z").cps.toList < (⟨#[n]⟩ : Str).cps.toList)) = decide (n ≤ 122) := by
  have e : (Str.ofString "z").cps.toList = [122] := by decide +kernel
  rw [e]
  have : (([122] : List Nat) < [n]) ↔ 122 < n := by rw [List.cons_lt_cons_iff]; simp
  by_cases h : 122 < n
  · rw [decide_eq_true (this.mpr h), decide_eq_false (by omega)]; rfl
  · rw [decide_eq_false (fun q => h (this.mp q)), decide_eq_true (by omega)]; rfl
theorem lows_are : lows.cps.toList = (List.range 26).map (97 + ·) := by decide +kernel
theorem low_in (n : Nat) : (decide (97 ≤ n) && decide (n ≤ 122)) = decide (n ∈ lows.cps.toList) := by
  rw [lows_are, ← Bool.decide_and]
  apply decide_eq_decide.mpr
  rw [List.mem_map]
  constructor
  · rintro ⟨h1, h2⟩; exact ⟨n - 97, by rw [List.mem_range]; omega, by omega⟩
  · rintro ⟨k, hk, rfl⟩; rw [List.mem_range] at hk; omega
end Dl
namespace Dl
open PySem PySem.Spec PyProof.Rows L2
theorem isGe_count (d : PyData) : isGe 0 d = isCount d := by cases d <;> rfl
theorem isGe_number (d : PyData) : isGe 1 d = isNumber d := by cases d <;> rfl
theorem allP_no {r : List PyData} {ps : List (PyData → Bool)} (h : r.length ≠ ps.length) : allP r ps = false := by
  cases e : allP r ps with
  | false => rfl
  | true => exact absurd (allP_len e) h
theorem one_of_len {r : List PyData} (h : (r.length : Int) = 1) : ∃ x, r = [x] := by
  match r, h with
  | [x], _ => exact ⟨x, rfl⟩
  | [], h => simp at h
  | _ :: _ :: _, h => simp at h; omega
theorem two_of_len {r : List PyData} (h : (r.length : Int) = 2) : ∃ x y, r = [x, y] := by
  match r, h with
  | [x, y], _ => exact ⟨x, y, rfl⟩
  | [], h => simp at h
  | [_], h => simp at h
  | _ :: _ :: _ :: _, h => simp at h; omega
theorem three_of_len {r : List PyData} (h : (r.length : Int) = 3) : ∃ x y z, r = [x, y, z] := by
  match r, h with
  | [x, y, z], _ => exact ⟨x, y, z, rfl⟩
  | [], h => simp at h
  | [_], h => simp at h
  | [_, _], h => simp at h
  | _ :: _ :: _ :: _ :: _, h => simp at h; omega
theorem four_of_len {r : List PyData} (h : (r.length : Int) = 4) : ∃ x y z u, r = [x, y, z, u] := by
  match r, h with
  | [x, y, z, u], _ => exact ⟨x, y, z, u, rfl⟩
  | [], h => simp at h
  | [_], h => simp at h
  | [_, _], h => simp at h
  | [_, _, _], h => simp at h
  | _ :: _ :: _ :: _ :: _ :: _, h => simp at h; omega
theorem edit_no {d : PyData} (h : isWord d = false) : isEdit d = false := byWord_word h
theorem edit_by {w : Str} {r : List PyData} {ps : List (PyData → Bool)} (h : editTests w = some ps) : isEdit (.tuple (.str w :: r)) = allP r ps := byWord_some h
theorem edit_none {w : Str} {r : List PyData} (h1 : w ≠ "remove") (h2 : w ∉ (["put", "take"] : List Str)) (h3 : w ≠ "splice") (h4 : w ∉ (["adopt", "drop"] : List Str)) : isEdit (.tuple (.str w :: r)) = false := by
  simp only [List.mem_cons, List.not_mem_nil, or_false, not_or] at h2 h4
  refine byWord_none ?_
  unfold editTests
  rw [if_neg (Ne.symm h2.1), if_neg (Ne.symm h3), if_neg (Ne.symm h1), if_neg (Ne.symm h2.2), if_neg (Ne.symm h4.1), if_neg (Ne.symm h4.2)]
theorem note_no {d : PyData} (h : isWord d = false) : isNote d = false := byWord_word h
theorem note_by {w : Str} {r : List PyData} {ps : List (PyData → Bool)} (h : noteTests w = some ps) : isNote (.tuple (.str w :: r)) = allP r ps := byWord_some h
theorem note_none {w : Str} {r : List PyData} (h1 : w ≠ "boot") (h2 : w ≠ "write") (h3 : w ≠ "settled") (h4 : w ≠ "stand") : isNote (.tuple (.str w :: r)) = false := by
  refine byWord_none ?_
  unfold noteTests
  rw [if_neg (Ne.symm h1), if_neg (Ne.symm h2), if_neg (Ne.symm h3), if_neg (Ne.symm h4)]
end Dl
namespace Dl
open PySem PySem.Spec PyProof.Rows L2
/-- what a caught error of the class D answers, L the class that the clause names -/
structure ErrF (K : PySem.W.Frag) (L D : Addr) : Prop where
  exm : PySem.W.exmOne K (.ref D) (.ref L) = some true
  ve : PySem.W.kitOne K (.ref D) (.type "ValueError") = some true
  self : PySem.W.kitOne K (.ref D) (.ref D) = some true
end Dl
set_option Elab.async false
set_option linter.all false
set_option autoImplicit false
set_option maxRecDepth 100000
set_option maxHeartbeats 4000000
namespace Dl
open PySem PySem.Spec PyProof.Rows L2
/-- fit, no dict within, not too deep -/
def Nic (k : Nat) (d : PyData) : Prop := fit d = true ∧ noD d = true ∧ d.depth ≤ k
theorem nic_str {z : Str} (h : z.length ≤ 1000000) : Nic 0 (.str z) := ⟨fit_str.mpr ⟨h, trivial⟩, by rw [noD] <;> simp, by simp [PyData.depth]⟩
theorem Nic.mono {j k : Nat} {d : PyData} (h : Nic j d) (e : j ≤ k) : Nic k d := ⟨h.1, h.2.1, Nat.le_trans h.2.2 e⟩
theorem nic_tup {k : Nat} {xs : List PyData} (hl : xs.length ≤ 1000000) (h : ∀ x ∈ xs, Nic k x) : Nic (k + 1) (.tuple xs) := by
  refine ⟨fit_tup.mpr ⟨hl, fun x m => (h x m).1⟩, noD_tup.mpr fun x m => (h x m).2.1, ?_⟩
  have : PyData.depthAll xs ≤ k := depthAll_le fun x m => (h x m).2.2
  simp only [PyData.depth]; omega
theorem nic_int {i : Int} (h1 : -(2 ^ 61) ≤ i) (h2 : i ≤ 2 ^ 61) : Nic 0 (.int i) := ⟨fit_int.mpr ⟨h1, h2⟩, by rw [noD] <;> simp, by simp [PyData.depth]⟩
abbrev SMf (d : PyData) : Prop := sm 300 (B12 + 1) d = true
theorem SMf.fit {d : PyData} (h : SMf d) : Dl.fit d = true := fit_of_sm (by decide) (by decide) h
theorem nic_sheet {d : PyData} (h : isSheet d = true) (hs : SMf d) : Nic 4 d := ⟨hs.fit, (sheet_noD h).1, (sheet_noD h).2⟩
theorem noted_nic {sh d : PyData} (h : isSheet sh = true) (hn : isNote d = true) (h1 : SMf sh) (h2 : SMf d) : Nic 4 (noted sh d) := by
  obtain ⟨b, N, p, rfl, hb0, hN0, hr⟩ := sheet_shape h
  have hall := (sm_tup.mp h1).2
  have ib := sm_int.mp (hall (.int b) (by simp))
  have iN := sm_int.mp (hall (.int N) (by simp))
  have ip := sm_tup.mp (hall (.tuple p) (by simp))
  simp only [B12] at ib iN
  have hrow : ∀ r ∈ p, Nic 2 r := fun r m => by
    obtain ⟨k, hk, rfl⟩ := List.getElem_of_mem m
    have q := row_noD (rowsOkAt_get hr k _ (List.getElem?_eq_getElem hk))
    exact ⟨SMf.fit (ip.2 _ m), q.1, q.2⟩
  have mk : ∀ {x y : Int} {q : List PyData}, 0 ≤ x → x ≤ 2 ^ 60 → 0 ≤ y → y ≤ 2 ^ 60 → q.length ≤ 1000000 → (∀ r ∈ q, Nic 2 r) → Nic 4 (.tuple [.int x, .int y, .tuple q]) := fun hx hx' hy hy' hq hr' => by
    refine nic_tup (k := 3) (by simp) fun z m => ?_
    simp only [List.mem_cons, List.not_mem_nil, or_false] at m
    rcases m with rfl | rfl | rfl
    · exact (nic_int (by omega) (by omega)).mono (by decide)
    · exact (nic_int (by omega) (by omega)).mono (by decide)
    · exact nic_tup hq hr'
  obtain ⟨w, rest, rfl, hl, hset, hne⟩ := note_of hn
  show Nic 4 (rawNoted b N p w rest)
  have hall2 := (sm_tup.mp h2).2
  unfold rawNoted
  split
  · exact mk (by omega) (by omega) (by omega) (by omega) (by omega) hrow
  rename_i n1
  split
  · rename_i e2
    subst e2
    refine mk (by omega) (by omega) (by omega) (by omega) (by simp; omega) fun r m => ?_
    rcases List.mem_append.mp m with m | m
    · exact hrow r m
    · rw [List.mem_singleton] at m
      subst m
      rw [note_by (ps := [isName, isBase, isEdit]) rfl] at hn
      have hl3 := allP_len hn
      obtain ⟨x, y, z, rfl⟩ := three_of_len (r := rest) (by rw [hl3]; rfl)
      simp only [allP, Bool.and_eq_true, and_true] at hn
      refine nic_tup (k := 1) (by simp) fun u m => ?_
      simp only [List.mem_cons, List.not_mem_nil, or_false] at m
      rcases m with rfl | rfl | rfl | rfl
      · exact (nic_int (by omega) (by omega)).mono (by decide)
      · exact ⟨SMf.fit (hall2 _ (by simp)), flat_noD (flat_name hn.1), by rw [name_depth hn.1]; omega⟩
      · exact ⟨SMf.fit (hall2 _ (by simp)), base_noD hn.2.1, base_depth hn.2.1⟩
      · exact ⟨SMf.fit (hall2 _ (by simp)), edit_noD hn.2.2, edit_depth hn.2.2⟩
  rename_i n2
  split
  · refine mk (by omega) (by omega) (by omega) (by omega) ?_ fun r m => ?_
    · split
      · rw [List.length_drop]; omega
      · omega
    · split at m
      · exact hrow r (List.mem_of_mem_drop m)
      · exact hrow r m
  rename_i n3
  cases rest with
  | nil => exact absurd rfl (hne n1)
  | cons s r =>
    have e4 : w = "stand" := by
      cases e : decide (w = "stand") with
      | true => exact of_decide_eq_true e
      | false => rw [note_none n1 n2 n3 (of_decide_eq_false e)] at hn; cases hn
    subst e4
    rw [note_by (ps := [isSheet]) rfl] at hn
    have hl1 := allP_len hn
    obtain ⟨x, e⟩ := one_of_len (r := s :: r) (by rw [hl1]; rfl)
    cases e
    simp only [allP, Bool.and_eq_true, and_true] at hn
    exact nic_sheet hn (hall2 _ (by simp))
theorem told_nic {x : PyData} (h : Nic 4 x) : Nic 5 (.tuple [.str "told", x]) := nic_tup (k := 4) (by simp) fun y m => by
  simp only [List.mem_cons, List.not_mem_nil, or_false] at m
  rcases m with rfl | rfl
  · exact (nic_str (by decide)).mono (by decide)
  · exact h
theorem word_nic {z : Str} (h : z.length ≤ 1000000) : Nic 5 (.tuple [.str z]) := (nic_tup (k := 0) (by simp) fun y m => by
  rw [List.mem_singleton] at m
  rw [m]; exact nic_str h).mono (by decide)
end Dl
set_option Elab.async false
set_option linter.all false
set_option autoImplicit false
set_option maxRecDepth 100000
set_option maxHeartbeats 4000000
namespace Dl
open PySem PySem.Spec PyProof.Rows L2
def IsTupV (K : PySem.W.Frag) (a : Addr) (xs : List V) : Prop := ∃ its, IsTup K a its ∧ its.length ≤ 1000 ∧ Vals xs its
theorem IsTupV.sq {K : PySem.W.Frag} {a : Addr} {xs : List V} (h : IsTupV K a xs) (H : Hp) : SqT K H a xs := by
  obtain ⟨its, t, hl, v⟩ := h
  exact t.sq hl v H
section
variable {K : PySem.W.Frag}
theorem tupC_ok {a : Addr} {vs : List V} (h : tupC K a vs = true) : IsTupV K a vs := by
  unfold tupC at h
  cases q : K.lookup a with
  | none => rw [q] at h; cases h
  | some o =>
    obtain ⟨oc, od, dt, osl⟩ := o
    rw [q] at h
    cases oc with
    | type c =>
      cases dt with
      | seq its n =>
        obtain ⟨h1, h2⟩ := He.ba (show (decide (c = "tuple") && (Nat.ble its.toList.length 1000 && He.relAll vs its.toList)) = true from h)
        obtain ⟨h3, h4⟩ := He.ba h2
        have e : c = "tuple" := of_decide_eq_true h1
        subst e
        exact ⟨its.toList, ⟨od, n, osl, by rw [q]⟩, Nat.le_of_ble_eq_true h3, He.relAll_ok h4⟩
      | _ => cases h
    | _ => cases dt <;> cases h
theorem int_ns {x : Str} {i : Int} (c : (Fx.fa (.int x i)).ok K = true) : ∃ t, PySem.W.nsIn K mainGlobals x = some (some (.int i t)) := by
  have c2 : (match PySem.W.nsIn K mainGlobals x with
    | some (some (.int j _)) => decide (j = i)
    | _ => false) = true := c
  cases e : PySem.W.nsIn K mainGlobals x with
  | none => rw [e] at c2; cases c2
  | some o =>
    rw [e] at c2
    cases o with
    | none => cases c2
    | some v =>
      cases v with
      | int j t =>
        have ej : j = i := of_decide_eq_true c2
        exact ⟨t, by rw [ej]⟩
      | _ => cases c2
theorem str_ns {x z : Str} (c : (Fx.fa (.str x z)).ok K = true) : ∃ t, PySem.W.nsIn K mainGlobals x = some (some (.str z t)) := by
  have c2 : (match PySem.W.nsIn K mainGlobals x with
    | some (some (.str y _)) => decide (y = z)
    | _ => false) = true := c
  cases e : PySem.W.nsIn K mainGlobals x with
  | none => rw [e] at c2; cases c2
  | some o =>
    rw [e] at c2
    cases o with
    | none => cases c2
    | some v =>
      cases v with
      | str y t =>
        have ej : y = z := of_decide_eq_true c2
        exact ⟨t, by rw [ej]⟩
      | _ => cases c2
theorem free_ns {x : Str} (c : (Fx.fa (.free x)).ok K = true) : PySem.W.nsIn K mainGlobals x = some none := He.eqO_ok c
theorem glo_ns {x : Str} (c : (Fx.fa (.glo x)).ok K = true) : PySem.W.nsIn K mainGlobals x = some (some (.ref (He.ga K x))) := He.eqO_ok c
theorem va_ns {n k : Str} (c : (Fx.va n k).ok K = true) : PySem.W.nsIn K (He.ga K n) k = some (some (.ref (dvA K (He.ga K n) k))) := He.eqO_ok c
theorem tp_ns {a : PySem.W.Frag → Addr} {vs : List He.Dv} (c : (Fx.tp a vs).ok K = true) : IsTupV K (a K) (vs.map (He.Dv.v K)) := tupC_ok c
theorem df_is {x : Str} {st : Stmt} (c : (Fx.df x).ok K = true) (e : He.fnObs K (fnT x st).at_ = (fnT x st).val) : IsDef K x st (He.ga K x) := by
  obtain ⟨c1, c2⟩ := He.ba c
  obtain ⟨c3, c4⟩ := He.ba c2
  obtain ⟨oc, od, osl, kV, doc, pm, an, cdv, ct, l, cd⟩ := He.fn_ok (d := fnT x st) e c4
  exact ⟨He.eqO_ok c1, c3, oc, od, an, osl, kV, doc, pm, cdv, ct, l, cd⟩
theorem isOB_ok {o : Option Bool} {b : Bool} (h : isOB o b = true) : o = some b := by
  cases o with
  | none => cases h
  | some c => cases c <;> cases b <;> first | rfl | cases h
theorem isTy_ok {o : Option Value} {n : String} (h : isTy o n = true) : o = some (.type n) := by
  unfold isTy at h
  split at h
  · rw [of_decide_eq_true h]
  · cases h
structure IsErr (K : PySem.W.Frag) (x : Str) (C : Addr) : Prop where
  a : PySem.W.nsIn K mainGlobals x = some (some (.ref C))
  ex : PySem.W.excIn K C [.type "ValueError", .type "Exception", .type "BaseException", .type "object"] "ValueError.__new__" = true
  kp : PySem.W.keepIn K (.ref C) = true
  sb : PySem.W.subIn K (.ref C) (.type "BaseException") = some true
  ty : PySem.W.typeIn K (.ref C) = some (.type "type")
  is_ : ExcC K C
theorem IsErr.d {x : Str} {C : Addr} {h : Heap} {mg : Str → Option Value} (e : IsErr K x C) (X : K.In h) (G : h.Ns mainGlobals mg) : ExcD K mg x C := ⟨PySem.W.mg_of X G e.a, e.ex, e.kp, e.sb, e.ty, e.is_⟩
theorem ex_is {x : Str} (c : (Fx.ex x).ok K = true) : IsErr K x (He.ga K x) := by
  obtain ⟨c1, c2⟩ := He.ba c
  obtain ⟨a, b⟩ := He.ba c2
  obtain ⟨a1, a2⟩ := He.ba a
  obtain ⟨a2, a3⟩ := He.ba a2
  obtain ⟨a3, a4⟩ := He.ba a3
  obtain ⟨b1, b2⟩ := He.ba b
  obtain ⟨b1, b3⟩ := He.ba b1
  obtain ⟨b3, b4⟩ := He.ba b3
  obtain ⟨b4, b5⟩ := He.ba b4
  obtain ⟨b2, b6⟩ := He.ba b2
  obtain ⟨b6, b7⟩ := He.ba b6
  exact ⟨He.eqO_ok c1, a1, a2, isOB_ok a3, isTy_ok a4, ⟨He.eqO_ok b1, He.eqO_ok b3, isOB_ok a3, b4, He.eqO_ok b5, He.eqO_ok b2, isOB_ok b6, isOB_ok b7⟩⟩
theorem ef_is {l d : Str} (c : (Fx.ef l d).ok K = true) : ErrF K (He.ga K l) (He.ga K d) := by
  obtain ⟨c1, c2⟩ := He.ba c
  obtain ⟨c2, c3⟩ := He.ba c2
  exact ⟨isOB_ok c1, isOB_ok c2, isOB_ok c3⟩
theorem en_is {d e : Str} (c : (Fx.en d e).ok K = true) : PySem.W.kitOne K (.ref (He.ga K d)) (.ref (He.ga K e)) = some false := isOB_ok c
theorem defX_of {P : Program} {w : World} {mg : Str → Option Value} {base : Heap} {k : Nat} {x : Str} {st : Stmt} {f : Addr} {fd : FuncData} {ps : List Str} {sp : Sp} {h : Heap} (I : IsDef K x st f) (X : K.In h) (G : h.Ns mainGlobals mg) (F : Fun K x x st f fd) (o : FnOk P w K mg base (L2.CX P w) k f fd ps sp) (b : Binds K fd ps []) : L2.DefX P w K mg base k x f fd ps sp :=
  ⟨o, PySem.W.mg_of X G I.a, I.k, b⟩
theorem keysAre_of {P : Params} : ∀ {l : List DictEntry} {ks : List Str}, l.map He.keyOf = He.keysIn P ks → keysAre l ks
  | [], [], _ => trivial
  | [], k :: ks, h => by cases h
  | e :: r, [], h => by cases h
  | e :: r, k :: ks, h => by
    have h1 : He.keyOf e :: r.map He.keyOf = some (k, PyData.keyHash P k) :: He.keysIn P ks := h
    injection h1 with h2 h3
    refine ⟨?_, keysAre_of h3⟩
    unfold He.keyOf at h2
    split at h2
    · rename_i x t q
      obtain ⟨h5, h6⟩ := Prod.mk.inj (Option.some.inj h2)
      exact ⟨t, by rw [q, h5]⟩
    · cases h2
theorem tab_is {w : World} {a : Addr} {ks : List Str} (h : He.dicW K a = some (He.keysIn w.params ks)) : ∃ es n, IsTab K w a ks es n := by
  obtain ⟨es, n, hd⟩ := He.dicW_ok h
  refine ⟨es, n, hd, ?_⟩
  unfold He.dicW at h
  rw [hd.at_] at h
  cases q : (a == sysModules) with
  | true =>
    simp [q] at h
  | false =>
    simp [q] at h
    exact keysAre_of h
end
section
variable {fx : List Fx} {fn : List He.FnD} {ts : List (Str × List Str)} {w : World} {K : PySem.W.Frag}
theorem SaysH.x (c : SaysH fx fn ts w K) (i : Nat) {f : Fx} (h : fx[i]? = some f) : f.ok K = true := by
  have c1 : (fx.all fun f => f.ok K) = true := congrArg (fun z : AlH => z.1) c
  exact List.all_eq_true.mp c1 f (List.mem_of_getElem? h)
theorem SaysH.f (c : SaysH fx fn ts w K) (i : Nat) {d : He.FnD} (h : fn[i]? = some d) : He.fnObs K d.at_ = d.val := by
  have e : fn.map (fun d => He.fnObs K d.at_) = fn.map He.FnD.val := congrArg (fun z : AlH => z.2.1) c
  have e2 : (fn.map fun d => He.fnObs K d.at_)[i]? = (fn.map He.FnD.val)[i]? := by rw [e]
  rw [List.getElem?_map, List.getElem?_map, h] at e2
  exact Option.some.inj e2
theorem SaysH.t (c : SaysH fx fn ts w K) (i : Nat) {t : Str × List Str} (h : ts[i]? = some t) : ∃ es n, IsTab K w (He.ga K t.1) t.2 es n := by
  have e : (ts.map fun t => He.dicW K (He.ga K t.1)) = ts.map fun t => some (He.keysIn w.params t.2) := congrArg (fun z : AlH => z.2.2) c
  have e2 : (ts.map fun t => He.dicW K (He.ga K t.1))[i]? = (ts.map fun t => some (He.keysIn w.params t.2))[i]? := by rw [e]
  rw [List.getElem?_map, List.getElem?_map, h] at e2
  exact tab_is (Option.some.inj e2)
end
/-- the law's end -/
theorem walkH {l : PySem.W.OpenLaw} {q : Program} {loose : List Str} {XP : (Str → Option Value) → Heap → Prop} {d : DefRec} {fx : List Fx} {fn : List He.FnD} {ts : List (Str × List Str)} {k : Nat} (hn : l.most = some 63) (hdf : d.params.defaults = []) (hd : d.name = "law") (hr : Room k callerA)
    (F : ∀ (w : World) (K : PySem.W.Frag) (mg : Str → Option Value) (fa : Addr) (h : Heap), K.In h → SaysH fx fn ts w K → h.Ns mainGlobals mg → mg "law" = some (.ref fa) →
      ∃ fd : FuncData, (∀ (s : Shared) (u : Value), BindsTo s fd ⟨[u], []⟩ [("_law_script", u)]) ∧ ∀ base : Heap, K.In base → base.Ns mainGlobals mg → FnOk l.prog w K mg base CX0 k fa fd ["_law_script"] (spLaw K)) :
    PySem.W.WalkO q loose XP (hookH fx fn ts).says l.row.toRowW d [] (fun f vs => PySem.call f vs) :=
  L2.walk_ofE (n := 63) (k := k) (x := "_law_script") (CX := CX0) hn (by decide) hdf hr (fun w mg fa h Y G hmg => by
    obtain ⟨K, KX, c⟩ := Y
    rw [hd] at hmg
    obtain ⟨fd, hb, hF⟩ := F w K mg fa h KX c G hmg
    exact ⟨K, fd, spLaw K, KX, hb, fun H a ns hl _ hS => ⟨a, ns, rfl, hS, hl, fun _ => rfl⟩, hF⟩) fun _ _ _ _ z => z
end Dl
set_option Elab.async false
set_option linter.all false
set_option autoImplicit false
set_option maxRecDepth 100000
set_option maxHeartbeats 4000000
set_option pp.maxSteps 500
namespace Pr
open PySem PySem.Spec PyProof.Rows L2 Dl
def topS (i : Nat) : Stmt := PySem.Challenge.pw_leasefiles_k18_sheets_and_notes_judged.main.body.getD i (.Pass ⟨0, 0, 0, 0⟩)
abbrev s_is_integer : Stmt := topS 5
theorem sc_is_integer : FnScope ["thing"] ["thing"] (defScope s_is_integer) := ⟨rfl, rfl, rfl, by decide +kernel, rfl, by decide +kernel, by decide +kernel⟩
abbrev s_is_between : Stmt := topS 6
theorem sc_is_between : FnScope ["thing", "least", "most"] ["thing", "least", "most"] (defScope s_is_between) := ⟨rfl, rfl, rfl, by decide +kernel, rfl, by decide +kernel, by decide +kernel⟩
abbrev s_is_count : Stmt := topS 7
theorem sc_is_count : FnScope ["thing"] ["thing"] (defScope s_is_count) := ⟨rfl, rfl, rfl, by decide +kernel, rfl, by decide +kernel, by decide +kernel⟩
abbrev s_is_tuple_of : Stmt := topS 8
theorem sc_is_tuple_of : FnScope ["thing", "many"] ["thing", "many"] (defScope s_is_tuple_of) := ⟨rfl, rfl, rfl, by decide +kernel, rfl, by decide +kernel, by decide +kernel⟩
abbrev s_are_ascending : Stmt := topS 9
theorem sc_are_ascending : FnScope ["things", "at"] ["things"] (defScope s_are_ascending) := ⟨rfl, rfl, rfl, by decide +kernel, rfl, by decide +kernel, by decide +kernel⟩
abbrev s_is_client : Stmt := topS 22
theorem sc_is_client : FnScope ["thing"] ["thing"] (defScope s_is_client) := ⟨rfl, rfl, rfl, by decide +kernel, rfl, by decide +kernel, by decide +kernel⟩
abbrev s_is_name : Stmt := topS 23
theorem sc_is_name : FnScope ["thing", "sign"] ["thing"] (defScope s_is_name) := ⟨rfl, rfl, rfl, by decide +kernel, rfl, by decide +kernel, by decide +kernel⟩
abbrev s_is_text : Stmt := topS 24
theorem sc_is_text : FnScope ["thing", "sign"] ["thing"] (defScope s_is_text) := ⟨rfl, rfl, rfl, by decide +kernel, rfl, by decide +kernel, by decide +kernel⟩
abbrev s_is_number : Stmt := topS 25
theorem sc_is_number : FnScope ["thing"] ["thing"] (defScope s_is_number) := ⟨rfl, rfl, rfl, by decide +kernel, rfl, by decide +kernel, by decide +kernel⟩
abbrev s_is_stamp : Stmt := topS 26
theorem sc_is_stamp : FnScope ["thing", "one"] ["thing"] (defScope s_is_stamp) := ⟨rfl, rfl, rfl, by decide +kernel, rfl, by decide +kernel, by decide +kernel⟩
abbrev s_is_base : Stmt := topS 27
theorem sc_is_base : FnScope ["thing"] ["thing"] (defScope s_is_base) := ⟨rfl, rfl, rfl, by decide +kernel, rfl, by decide +kernel, by decide +kernel⟩
abbrev s_are_all : Stmt := topS 29
theorem sc_are_all : FnScope ["things", "tests", "test", "one"] ["things", "tests"] (defScope s_are_all) := ⟨rfl, rfl, rfl, by decide +kernel, rfl, by decide +kernel, by decide +kernel⟩
abbrev s_has_word : Stmt := topS 30
theorem sc_has_word : FnScope ["thing"] ["thing"] (defScope s_has_word) := ⟨rfl, rfl, rfl, by decide +kernel, rfl, by decide +kernel, by decide +kernel⟩
abbrev s_is_edit : Stmt := topS 31
theorem sc_is_edit : FnScope ["thing"] ["thing"] (defScope s_is_edit) := ⟨rfl, rfl, rfl, by decide +kernel, rfl, by decide +kernel, by decide +kernel⟩
abbrev s_are_rows : Stmt := topS 33
theorem sc_are_rows : FnScope ["thing", "tests", "size", "row"] ["thing", "tests", "size"] (defScope s_are_rows) := ⟨rfl, rfl, rfl, by decide +kernel, rfl, by decide +kernel, by decide +kernel⟩
abbrev s_bare_sheet : Stmt := topS 39
theorem sc_bare_sheet : FnScope [] [] (defScope s_bare_sheet) := ⟨rfl, rfl, rfl, by decide +kernel, rfl, by decide +kernel, by decide +kernel⟩
abbrev s_is_sheet : Stmt := topS 40
theorem sc_is_sheet : FnScope ["thing", "numbers", "write", "first"] ["thing"] (defScope s_is_sheet) := ⟨rfl, rfl, rfl, by decide +kernel, rfl, by decide +kernel, by decide +kernel⟩
abbrev s_check_sheet : Stmt := topS 41
theorem sc_check_sheet : FnScope ["thing"] ["thing"] (defScope s_check_sheet) := ⟨rfl, rfl, rfl, by decide +kernel, rfl, by decide +kernel, by decide +kernel⟩
abbrev s_is_note : Stmt := topS 43
theorem sc_is_note : FnScope ["thing"] ["thing"] (defScope s_is_note) := ⟨rfl, rfl, rfl, by decide +kernel, rfl, by decide +kernel, by decide +kernel⟩
abbrev s_raw_noted : Stmt := topS 44
theorem sc_raw_noted : FnScope ["sheet", "deed", "boot", "number", "pending", "word", "rest"] ["sheet", "deed"] (defScope s_raw_noted) := ⟨rfl, rfl, rfl, by decide +kernel, rfl, by decide +kernel, by decide +kernel⟩
abbrev s_noted_behind : Stmt := topS 45
theorem sc_noted_behind : FnScope ["sheet", "deed"] ["sheet", "deed"] (defScope s_noted_behind) := ⟨rfl, rfl, rfl, by decide +kernel, rfl, by decide +kernel, by decide +kernel⟩
theorem ite_t {b : Bool} {X Y : Prop} (e : b = true) (h : X) : if b = true then X else Y := by rw [if_pos e]; exact h
theorem ite_f {b : Bool} {X Y : Prop} (e : b = false) (h : Y) : if b = true then X else Y := by rw [if_neg (by rw [e]; exact Bool.false_ne_true)]; exact h
theorem ite_b {b : Bool} {X Y : Prop} (h1 : b = true → X) (h2 : b = false → Y) : if b = true then X else Y := by
  cases b with
  | true => exact h1 rfl
  | false => exact h2 rfl
local macro_rules | `(tactic| walk_at "dl1") => `(tactic| first
  | ((with_reducible show PSt _ _ _ _ _ _); first
    | (with_reducible refine ps_seq ?_)
    | (with_reducible refine ps_ret ?_)
    | (with_reducible refine ps_if ?_)
    | (with_reducible refine ps_set ?_)
    | (with_reducible refine ps_next ?_)
    | (with_reducible refine ps_drop ?_))
  | ((with_reducible show PV _ _ _ _ _); first
    | ((with_reducible refine' pv_var ?k1 ?_); (case k1 => rfl))
    | (with_reducible refine pv_int ?_)
    | (with_reducible refine pv_str ?_)
    | (with_reducible refine pv_bl ?_)
    | (with_reducible refine pv_non ?_)
    | (with_reducible refine pv_and ?_)
    | (with_reducible refine pv_or ?_)
    | (with_reducible refine pv_not ?_)
    | (with_reducible refine pv_if ?_)
    | (with_reducible refine pv_op ?_)
    | (with_reducible refine pv_un ?_)
    | (with_reducible refine pv_chain ?_)
    | (with_reducible refine pv_tup ?_)
    | (with_reducible refine pv_lst2 ?_)
    | (with_reducible refine pv_call ?_)
    | (with_reducible refine pv_allT ?_)
    | (with_reducible refine pv_allS ?_)
    | (with_reducible refine pv_allR ?_)
    | (with_reducible refine pv_lcT ?_)
    | (with_reducible refine pv_lcL ?_)
    | (with_reducible refine pv_lcTF ?_)
    | (with_reducible refine pv_listRg2 ?_)
    | (with_reducible refine pv_cb ?_)
    | (with_reducible refine pv_sl ?_)
    | ((with_reducible refine' pv_const ?k1 ?_); (case k1 => assumption))
    | (with_reducible refine pv_raw ?_))
  | ((with_reducible show O2 _ _ _ _ _ _); first
    | (with_reducible refine o_add ?_)
    | (with_reducible refine o_ii ?_)
    | (with_reducible refine o_ib ?_)
    | (with_reducible refine o_le ?_)
    | (with_reducible refine o_lt ?_)
    | (with_reducible refine o_eqI ?_)
    | (with_reducible refine o_neI ?_)
    | (with_reducible refine o_eqS ?_)
    | (with_reducible refine o_eqB ?_)
    | (with_reducible refine o_neB ?_)
    | (with_reducible refine o_leS ?_)
    | (with_reducible refine o_inS ?_)
    | ((with_reducible refine' o_isN ?k1 ?_); (case k1 => rfl))
    | ((with_reducible refine' o_notN ?k1 ?_); (case k1 => rfl))
    | (with_reducible refine o_isntB ?_)
    | ((with_reducible refine' o_ixT ?k1 ?_); (case k1 => first | exact at0 | exact at1 | rfl)))
  | ((with_reducible show OC _ _ _ _ _); first
    | (with_reducible refine oc_isi (isT_int _) ?_)
    | (with_reducible refine oc_isi (isT_bool _) ?_)
    | (with_reducible refine oc_isi (isT_str _) ?_)
    | (with_reducible refine oc_isi (isT_tuple _) ?_)
    | (with_reducible refine oc_isi (isT_list _) ?_)
    | (with_reducible refine oc_lenT ?_)
    | (with_reducible refine oc_lenL ?_)
    | (with_reducible refine oc_lenR ?_)
    | ((with_reducible refine oc_lenS ?k1 ?_); (case k1 => assumption)))
  | ((with_reducible show PAs _ _ _ _ _); first
    | (with_reducible refine pas_nil ?_)
    | (with_reducible refine pas_cons ?_))
  | ((with_reducible show PB _ _ _ _ _); first
    | (with_reducible refine pb_test' ?_)
    | (with_reducible refine pb_B ?_)
    | (with_reducible refine pb_and ?_)
    | (with_reducible refine pb_or ?_)
    | (with_reducible refine pb_not ?_))
  | ((with_reducible show PPart _ _ _ _ _); first
    | (with_reducible refine pp_none ?_)
    | (with_reducible refine pp_some ?_))
  | ((with_reducible show OSl _ _ _ _ _ _ _); first
    | (with_reducible refine os_tup ?_))
  | ((with_reducible refine ite_t ?k1 ?_); (case k1 => rfl))
  | ((with_reducible refine ite_f ?k1 ?_); (case k1 => rfl))
  | ((with_reducible refine use_FJ ?k1 ?_); (case k1 => first | rfl | assumption))
  | (with_reducible refine use_is_between ?_)
  | (with_reducible refine use_is_tuple_of ?_)
  | (refine Or.inl (Exists.intro _ (And.intro rfl (And.intro (le_line (Nat.le_of_ble_eq_true rfl)) ?_))))
  | (refine Or.inr (Exists.intro _ (And.intro rfl (And.intro (le_line (Nat.le_of_ble_eq_true rfl)) ?_))))
  | (with_reducible refine Exists.intro _ (And.intro rfl ?_))
  | ((with_reducible refine And.intro ?k1 ?_); (case k1 => exact le_line (Nat.le_of_ble_eq_true rfl))))
local macro_rules | `(tactic| walk_at "dl") => `(tactic| repeat walk_at "dl1")
variable {P : Program} {w : World} {K : PySem.W.Frag} {mg : Str → Option Value} {base : Heap}
theorem ok_is_integer {f : Addr} {fd : FuncData} (F : Fun K "is_integer" "is_integer" s_is_integer f fd)   (B : Blt mg)  : FnOk P w K mg base CX0 1 f fd ["thing"] (SpF K F_is_integer) := by
  refine F.ok sc_is_integer (fun vs H Q E h => ?_) (fun cdv A outer s H vs Q E hr h => ?_)
  · exact lenF h fun c g es P h => h.1
  obtain ⟨c, I, g, es, P, rfl, ok, r, hF, k⟩ := h
  have nd := sc_is_integer.nd
  have hu := hr.units
  have hu1 := hu_of hr
  refine ⟨_, (pss_one (L2.ps_ret (pe_and (pe_callB (cr_isi (K := c.K)) (by rfl) B.isinstance_ (by decide +kernel) (pa_cons (pv 0) (pa_cons (pe_bltn (v := .ty "int") (by rfl) B.int_ PyProof.Rows.boot_int rfl) pa_nil))) (pe_one (pe_not (pe_callB (cr_isi (K := c.K)) (by rfl) B.isinstance_ (by decide +kernel) (pa_cons (pv 0) (pa_cons (pe_bltn (v := .ty "bool") (by rfl) B.bool_ PyProof.Rows.boot_bool rfl) pa_nil)))))))), body_run ok r k ?_⟩
  obtain ⟨-, d, rfl, -, hP⟩ := hF
  cases d <;> walk_at "dl" <;> exact hP
theorem ok_is_between {f : Addr} {fd : FuncData} (F : Fun K "is_between" "is_between" s_is_between f fd)   {f_is_integer : Addr} {fd_is_integer : FuncData} {ps_is_integer : List Str} (D_is_integer : L2.Def P w K mg base 1 "is_integer" f_is_integer fd_is_integer ps_is_integer (SpF K F_is_integer))  : FnOk P w K mg base CX0 2 f fd ["thing", "least", "most"] (SpF K F_is_between) := by
  refine F.ok sc_is_between (fun vs H Q E h => ?_) (fun cdv A outer s H vs Q E hr h => ?_)
  · exact lenF h fun c g es P h => h.1
  obtain ⟨c, I, g, es, P, rfl, ok, r, hF, k⟩ := h
  have nd := sc_is_between.nd
  have hu := hr.units
  have hu1 := hu_of hr
  refine ⟨_, (pss_one (L2.ps_ret (pe_and (pe_call D_is_integer.ok (hr.mono (by first | decide | omega)) rfl D_is_integer.at_ D_is_integer.kp D_is_integer.bd .nil pass0 (pa_cons (pv 0) pa_nil)) (pe_one (pe_chain op_zle op_zle (pv 1) (pv 0) (pv 2)))))), body_run ok r k ?_⟩
  obtain ⟨-, d, a, b, rfl, hP⟩ := hF
  walk_at "dl"
  refine ite_b (fun hb => ?_) (fun hb => ?_)
  · obtain ⟨i, rfl⟩ := int_of hb
    walk_at "dl"
    refine ite_b (fun h1 => ?_) (fun h1 => ?_)
    · walk_at "dl"
      exact fin hP (by simp [isBtw, h1])
    · exact fin hP (by simp [isBtw, h1])
  · exact fin hP (by cases d <;> first | rfl | cases hb)
theorem ok_is_count {f : Addr} {fd : FuncData} (F : Fun K "is_count" "is_count" s_is_count f fd)   {f_is_integer : Addr} {fd_is_integer : FuncData} {ps_is_integer : List Str} (D_is_integer : L2.Def P w K mg base 1 "is_integer" f_is_integer fd_is_integer ps_is_integer (SpF K F_is_integer))  : FnOk P w K mg base CX0 2 f fd ["thing"] (SpF K F_is_count) := by
  refine F.ok sc_is_count (fun vs H Q E h => ?_) (fun cdv A outer s H vs Q E hr h => ?_)
  · exact lenF h fun c g es P h => h.1
  obtain ⟨c, I, g, es, P, rfl, ok, r, hF, k⟩ := h
  have nd := sc_is_count.nd
  have hu := hr.units
  have hu1 := hu_of hr
  refine ⟨_, (pss_one (L2.ps_ret (pe_and (pe_call D_is_integer.ok (hr.mono (by first | decide | omega)) rfl D_is_integer.at_ D_is_integer.kp D_is_integer.bd .nil pass0 (pa_cons (pv 0) pa_nil)) (pe_one (pe_cmpR op_ge (pv 0) pe_int (nomark _)))))), body_run ok r k ?_⟩
  obtain ⟨-, d, rfl, -, hP⟩ := hF
  walk_at "dl"
  refine ite_b (fun hb => ?_) (fun hb => ?_)
  · obtain ⟨i, rfl⟩ := int_of hb
    walk_at "dl"
    exact hP
  · exact fin hP (by cases d <;> first | rfl | cases hb)
theorem ok_is_tuple_of {f : Addr} {fd : FuncData} (F : Fun K "is_tuple_of" "is_tuple_of" s_is_tuple_of f fd)   (B : Blt mg)  : FnOk P w K mg base CX0 1 f fd ["thing", "many"] (SpF K F_is_tuple_of) := by
  refine F.ok sc_is_tuple_of (fun vs H Q E h => ?_) (fun cdv A outer s H vs Q E hr h => ?_)
  · exact lenF h fun c g es P h => h.1
  obtain ⟨c, I, g, es, P, rfl, ok, r, hF, k⟩ := h
  have nd := sc_is_tuple_of.nd
  have hu := hr.units
  have hu1 := hu_of hr
  refine ⟨_, (pss_one (L2.ps_ret (pe_and (pe_callB (cr_isi (K := c.K)) (by rfl) B.isinstance_ (by decide +kernel) (pa_cons (pv 0) (pa_cons (pe_bltn (v := .ty "tuple") (by rfl) B.tuple_ PyProof.Rows.boot_tuple rfl) pa_nil))) (pe_one (pe_cmpR (op_zeq (K := c.K) hu) (pe_callB (cr_len (K := c.K)) (by rfl) B.len_ PySem.boot_len (pa_cons (pv 0) pa_nil)) (pv 1) (nomark _)))))), body_run ok r k ?_⟩
  obtain ⟨-, d, n, rfl, hP⟩ := hF
  cases d <;> walk_at "dl" <;> exact hP
theorem ok_are_ascending {f : Addr} {fd : FuncData} (F : Fun K "are_ascending" "are_ascending" s_are_ascending f fd)   (B : Blt mg)  : FnOk P w K mg base CX0 1 f fd ["things"] (SpF K F_are_ascending) := by
  refine F.ok sc_are_ascending (fun vs H Q E h => ?_) (fun cdv A outer s H vs Q E hr h => ?_)
  · exact lenF h fun c g es P h => h.1
  obtain ⟨c, I, g, es, P, rfl, ok, r, hF, k⟩ := h
  have nd := sc_are_ascending.nd
  have hu := hr.units
  have hu1 := hu_of hr
  refine ⟨_, (pss_one (L2.ps_ret (pe_callB (cr_allZ (K := c.K) rfl) (by rfl) B.all_ (by decide +kernel) (pa_cons (pe_lc (own := [("at", 1)]) (g := gName 1) (tt := tYes) rfl nd (pi_range1 rfl B.range_ (pa_cons (pe_op op_sub (pe_callB (cr_len (K := c.K)) (by rfl) B.len_ PySem.boot_len (pa_cons (pv 0) pa_nil)) pe_int) pa_nil)) (blkOk_by (N := ["things", "at"]) (sc := defScope s_are_ascending) (by decide +kernel)) (fun _ _ _ _ _ => pg_name (i := 1) nd rfl (Or.inl rfl)) (fun _ _ _ _ _ => pts_nil) (fun _ _ _ _ _ => (pe_cmpR (op_zlt (K := c.K) hu) (pe_ix (ix_z (K := c.K) (w := w)) (pv 0) (pv 1) (fun _ _ => rfl)) (pe_ix (ix_z (K := c.K) (w := w)) (pv 0) (pe_op (op_zadd (K := c.K)) (pv 1) pe_int) (fun _ _ => rfl)) (nomark _)))) pa_nil)))), body_run ok r k ?_⟩
  obtain ⟨-, ds, he, hz, ha, hP⟩ := hF
  have hd : ((ds.length : Int) - 1).toNat = ds.length - 1 := by omega
  have key : ∀ i, i < ds.length - 1 → ∃ a b, ds[i]? = some a ∧ ds[i + 1]? = some b ∧ atI ds (i : Int) = some a ∧ atI ds ((i : Int) + 1) = some b := fun i hi => by
    refine ⟨ds[i]'(by omega), ds[i + 1]'(by omega), List.getElem?_eq_getElem _, List.getElem?_eq_getElem _, atI_nat (List.getElem?_eq_getElem _), ?_⟩
    rw [show ((i : Int) + 1) = ((i + 1 : Nat) : Int) by omega]; exact atI_nat (List.getElem?_eq_getElem _)
  rcases he with rfl | rfl
  · walk_at "dl"
    refine ⟨_, _, rfl, hd, by simp, by omega, by omega, ltAt ds, fun i hi => ?_, hP⟩
    obtain ⟨a, b, e1, e2, e3, e4⟩ := key i hi
    obtain ⟨p1, p2, h1, h2, h3⟩ := ha i a b e1 e2
    walk_at "dl"
    refine o_ixL e3 ?_
    walk_at "dl"
    refine o_ixL e4 ?_
    refine o_ltD p1 p2 h1 h2 h3 ?_
    exact ⟨by rw [ltAt, e1, e2], rfl⟩
  · walk_at "dl"
    refine ⟨_, _, rfl, hd, by simp, by omega, by omega, ltAt ds, fun i hi => ?_, hP⟩
    obtain ⟨a, b, e1, e2, e3, e4⟩ := key i hi
    obtain ⟨p1, p2, h1, h2, h3⟩ := ha i a b e1 e2
    walk_at "dl"
    refine o_ixT e3 ?_
    walk_at "dl"
    refine o_ixT e4 ?_
    refine o_ltD p1 p2 h1 h2 h3 ?_
    exact ⟨by rw [ltAt, e1, e2], rfl⟩
theorem ok_is_client {f : Addr} {fd : FuncData} (F : Fun K "is_client" "is_client" s_is_client f fd)   {t_MOST_CLIENTS : Tok} (C_MOST_CLIENTS : mg "MOST_CLIENTS" = some (.int 9 t_MOST_CLIENTS)) {f_is_between : Addr} {fd_is_between : FuncData} {ps_is_between : List Str} (D_is_between : L2.Def P w K mg base 2 "is_between" f_is_between fd_is_between ps_is_between (SpF K F_is_between))  : FnOk P w K mg base CX0 3 f fd ["thing"] (SpF K (FJ any' isClient)) := by
  refine F.ok sc_is_client (fun vs H Q E h => ?_) (fun cdv A outer s H vs Q E hr h => ?_)
  · exact lenF h fun c g es P h => h.1
  obtain ⟨c, I, g, es, P, rfl, ok, r, hF, k⟩ := h
  have nd := sc_is_client.nd
  have hu := hr.units
  have hu1 := hu_of hr
  refine ⟨_, (pss_one (L2.ps_ret (pe_call D_is_between.ok (hr.mono (by first | decide | omega)) rfl D_is_between.at_ D_is_between.kp D_is_between.bd .nil pass0 (pa_cons (pv 0) (pa_cons pe_int (pa_cons (pe_glob (v := .int 9) (by rfl) C_MOST_CLIENTS ⟨_, rfl⟩) pa_nil)))))), body_run ok r k ?_⟩
  obtain ⟨-, d, rfl, -, hP⟩ := hF
  walk_at "dl"
  exact hP
theorem ok_is_number {f : Addr} {fd : FuncData} (F : Fun K "is_number" "is_number" s_is_number f fd)   {f_is_integer : Addr} {fd_is_integer : FuncData} {ps_is_integer : List Str} (D_is_integer : L2.Def P w K mg base 1 "is_integer" f_is_integer fd_is_integer ps_is_integer (SpF K F_is_integer))  : FnOk P w K mg base CX0 2 f fd ["thing"] (SpF K (FJ any' isNumber)) := by
  refine F.ok sc_is_number (fun vs H Q E h => ?_) (fun cdv A outer s H vs Q E hr h => ?_)
  · exact lenF h fun c g es P h => h.1
  obtain ⟨c, I, g, es, P, rfl, ok, r, hF, k⟩ := h
  have nd := sc_is_number.nd
  have hu := hr.units
  have hu1 := hu_of hr
  refine ⟨_, (pss_one (L2.ps_ret (pe_and (pe_call D_is_integer.ok (hr.mono (by first | decide | omega)) rfl D_is_integer.at_ D_is_integer.kp D_is_integer.bd .nil pass0 (pa_cons (pv 0) pa_nil)) (pe_one (pe_cmpR op_ge (pv 0) pe_int (nomark _)))))), body_run ok r k ?_⟩
  obtain ⟨-, d, rfl, -, hP⟩ := hF
  walk_at "dl"
  refine ite_b (fun hb => ?_) (fun hb => ?_)
  · obtain ⟨i, rfl⟩ := int_of hb
    walk_at "dl"
    exact hP
  · exact fin hP (by cases d <;> first | rfl | cases hb)
theorem ok_is_name {f : Addr} {fd : FuncData} (F : Fun K "is_name" "is_name" s_is_name f fd)   (B : Blt mg) {t_MOST_IN_NAME : Tok} (C_MOST_IN_NAME : mg "MOST_IN_NAME" = some (.int 8 t_MOST_IN_NAME)) {t_SIGNS : Tok} (C_SIGNS : mg "SIGNS" = some (.str "abcdefghijklmnopqrstuvwxyz" t_SIGNS))  : FnOk P w K mg base CX0 1 f fd ["thing"] (SpF K (FJ fit isName)) := by
  refine F.ok sc_is_name (fun vs H Q E h => ?_) (fun cdv A outer s H vs Q E hr h => ?_)
  · exact lenF h fun c g es P h => h.1
  obtain ⟨c, I, g, es, P, rfl, ok, r, hF, k⟩ := h
  have nd := sc_is_name.nd
  have hu := hr.units
  have hu1 := hu_of hr
  refine ⟨_, (pss_one (L2.ps_ret (pe_and (pe_callB (cr_isi (K := c.K)) (by rfl) B.isinstance_ (by decide +kernel) (pa_cons (pv 0) (pa_cons (pe_bltn (v := .ty "str") (by rfl) B.str_ PyProof.Rows.boot_str rfl) pa_nil))) (pe_and (pe_chain op_zle op_zle pe_int (pe_callB (cr_len (K := c.K)) (by rfl) B.len_ PySem.boot_len (pa_cons (pv 0) pa_nil)) (pe_glob (v := .int 8) (by rfl) C_MOST_IN_NAME ⟨_, rfl⟩)) (pe_one (pe_callB (cr_allZ (K := c.K) rfl) (by rfl) B.all_ (by decide +kernel) (pa_cons (pe_lc (own := [("sign", 1)]) (g := gName 1) (tt := tYes) rfl nd (pi_str (pv 0)) (blkOk_by (N := ["thing", "sign"]) (sc := defScope s_is_name) (by decide +kernel)) (fun _ _ _ _ _ => pg_name (i := 1) nd rfl (Or.inl rfl)) (fun _ _ _ _ _ => pts_nil) (fun _ _ _ _ _ => (pe_cmpR op_zinS (pv 1) (pe_glob (v := .str "abcdefghijklmnopqrstuvwxyz") (by rfl) C_SIGNS ⟨_, rfl⟩) rfl))) pa_nil))))))), body_run ok r k ?_⟩
  obtain ⟨-, d, rfl, hf, hP⟩ := hF
  walk_at "dl"
  refine ite_b (fun hb => ?_) (fun hb => ?_)
  · obtain ⟨x, rfl⟩ := str_of hb
    have hz : x.length ≤ sizeLine := le_line (fit_str.mp hf).1
    walk_at "dl"
    refine ite_b (fun h1 => ?_) (fun h1 => ?_)
    · walk_at "dl"
      refine ite_b (fun h2 => ?_) (fun h2 => ?_)
      · walk_at "dl"
        refine ⟨by simp, (fit_str.mp hf).1, fun n => decide (n ∈ lows.cps.toList), fun n hn => ?_, fin hP (by simp only [isName, h1, h2, Bool.true_and])⟩
        walk_at "dl"
        exact ⟨rfl, rfl⟩
      · exact fin hP (by simp only [isName, h1, h2, Bool.true_and, Bool.false_and])
    · walk_at "dl"
      exact fin hP (by simp only [isName, h1, Bool.false_and])
  · exact fin hP (by cases d <;> first | rfl | cases hb)
theorem ok_is_text {f : Addr} {fd : FuncData} (F : Fun K "is_text" "is_text" s_is_text f fd)   (B : Blt mg) {t_MOST_IN_TEXT : Tok} (C_MOST_IN_TEXT : mg "MOST_IN_TEXT" = some (.int 96 t_MOST_IN_TEXT))  : FnOk P w K mg base CX0 1 f fd ["thing"] (SpF K (FJ fit isText)) := by
  refine F.ok sc_is_text (fun vs H Q E h => ?_) (fun cdv A outer s H vs Q E hr h => ?_)
  · exact lenF h fun c g es P h => h.1
  obtain ⟨c, I, g, es, P, rfl, ok, r, hF, k⟩ := h
  have nd := sc_is_text.nd
  have hu := hr.units
  have hu1 := hu_of hr
  refine ⟨_, (pss_one (L2.ps_ret (pe_and (pe_callB (cr_isi (K := c.K)) (by rfl) B.isinstance_ (by decide +kernel) (pa_cons (pv 0) (pa_cons (pe_bltn (v := .ty "str") (by rfl) B.str_ PyProof.Rows.boot_str rfl) pa_nil))) (pe_and (pe_cmpR op_zle (pe_callB (cr_len (K := c.K)) (by rfl) B.len_ PySem.boot_len (pa_cons (pv 0) pa_nil)) (pe_glob (v := .int 96) (by rfl) C_MOST_IN_TEXT ⟨_, rfl⟩) (nomark _)) (pe_one (pe_callB (cr_allZ (K := c.K) rfl) (by rfl) B.all_ (by decide +kernel) (pa_cons (pe_lc (own := [("sign", 1)]) (g := gName 1) (tt := tYes) rfl nd (pi_str (pv 0)) (blkOk_by (N := ["thing", "sign"]) (sc := defScope s_is_text) (by decide +kernel)) (fun _ _ _ _ _ => pg_name (i := 1) nd rfl (Or.inl rfl)) (fun _ _ _ _ _ => pts_nil) (fun _ _ _ _ _ => (pe_chain op_zle op_zle pe_str (pv 1) pe_str))) pa_nil))))))), body_run ok r k ?_⟩
  obtain ⟨-, d, rfl, hf, hP⟩ := hF
  walk_at "dl"
  refine ite_b (fun hb => ?_) (fun hb => ?_)
  · obtain ⟨x, rfl⟩ := str_of hb
    have hz : x.length ≤ sizeLine := le_line (fit_str.mp hf).1
    walk_at "dl"
    refine ite_b (fun h1 => ?_) (fun h1 => ?_)
    · walk_at "dl"
      refine ⟨by simp, (fit_str.mp hf).1, isSign, fun n hn => ?_, fin hP (by simp only [isText, h1, Bool.true_and])⟩
      walk_at "dl"
      rw [sign_lo]
      refine ite_b (fun h2 => ?_) (fun h2 => ?_)
      · walk_at "dl"
        refine ⟨?_, rfl⟩
        rw [sign_hi]
        simp only [isSign, h2, Bool.true_and]
      · refine ⟨?_, rfl⟩
        simp only [isSign, h2, Bool.false_and]
    · exact fin hP (by simp only [isText, h1, Bool.false_and])
  · exact fin hP (by cases d <;> first | rfl | cases hb)
theorem ok_is_stamp {f : Addr} {fd : FuncData} (F : Fun K "is_stamp" "is_stamp" s_is_stamp f fd) {a_FIRST_STAMP : Addr} (C_FIRST_STAMP : mg "FIRST_STAMP" = some (.ref a_FIRST_STAMP)) (Z_FIRST_STAMP : ∀ I, Dl.Dp K I (.ref a_FIRST_STAMP) (.tuple [(.int 0), (.int 0), (.int 0)]))  (B : Blt mg) {f_is_tuple_of : Addr} {fd_is_tuple_of : FuncData} {ps_is_tuple_of : List Str} (D_is_tuple_of : L2.Def P w K mg base 1 "is_tuple_of" f_is_tuple_of fd_is_tuple_of ps_is_tuple_of (SpF K F_is_tuple_of)) {f_is_count : Addr} {fd_is_count : FuncData} {ps_is_count : List Str} (D_is_count : L2.Def P w K mg base 2 "is_count" f_is_count fd_is_count ps_is_count (SpF K F_is_count)) {f_is_number : Addr} {fd_is_number : FuncData} {ps_is_number : List Str} (D_is_number : L2.Def P w K mg base 2 "is_number" f_is_number fd_is_number ps_is_number (SpF K (FJ any' isNumber))) {f_is_client : Addr} {fd_is_client : FuncData} {ps_is_client : List Str} (D_is_client : L2.Def P w K mg base 3 "is_client" f_is_client fd_is_client ps_is_client (SpF K (FJ any' isClient)))  : FnOk P w K mg base CX0 4 f fd ["thing"] (SpF K (FJ fit isStamp)) := by
  refine F.ok sc_is_stamp (fun vs H Q E h => ?_) (fun cdv A outer s H vs Q E hr h => ?_)
  · exact lenF h fun c g es P h => h.1
  obtain ⟨c, I, g, es, P, rfl, ok, r, hF, k⟩ := h
  have nd := sc_is_stamp.nd
  have hu := hr.units
  have hu1 := hu_of hr
  refine ⟨_, (pss_cons (L2.ps_if (PW.pt (pw_or (pt_not (pt_val (pe_call D_is_tuple_of.ok (hr.mono (by first | decide | omega)) rfl D_is_tuple_of.at_ D_is_tuple_of.kp D_is_tuple_of.bd .nil pass0 (pa_cons (pv 0) (pa_cons pe_int pa_nil))))) (pw_or1 (pt_not (pt_val (pe_callB (cr_allZ (K := c.K) rfl) (by rfl) B.all_ (by decide +kernel) (pa_cons (pe_lc (own := [("one", 1)]) (g := gName 1) (tt := tYes) rfl nd (pi_tupZ (K := c.K) (pv 0)) (blkOk_by (N := ["thing", "one"]) (sc := defScope s_is_stamp) (by decide +kernel)) (fun _ _ _ _ _ => pg_name (i := 1) nd rfl (Or.inl rfl)) (fun _ _ _ _ _ => pts_nil) (fun _ _ _ _ _ => (pe_call D_is_count.ok (hr.mono (by first | decide | omega)) rfl D_is_count.at_ D_is_count.kp D_is_count.bd .nil pass0 (pa_cons (pv 1) pa_nil)))) pa_nil))))))) (pss_one (L2.ps_ret pe_bl)) pss_nil)
      (pss_one (L2.ps_ret (pe_or (pe_cmpR (op_zeq (K := c.K) hu) (pv 0) (pe_glob (v := .ref a_FIRST_STAMP) (by rfl) C_FIRST_STAMP rfl) (nomark _)) (pe_one (pe_and (pe_call D_is_number.ok (hr.mono (by first | decide | omega)) rfl D_is_number.at_ D_is_number.kp D_is_number.bd .nil pass0 (pa_cons (pe_ix (ix_z (K := c.K) (w := w)) (pv 0) pe_int (fun _ _ => rfl)) pa_nil)) (pe_and (pe_call D_is_client.ok (hr.mono (by first | decide | omega)) rfl D_is_client.at_ D_is_client.kp D_is_client.bd .nil pass0 (pa_cons (pe_ix (ix_z (K := c.K) (w := w)) (pv 0) pe_int (fun _ _ => rfl)) pa_nil)) (pe_one (pe_call D_is_number.ok (hr.mono (by first | decide | omega)) rfl D_is_number.at_ D_is_number.kp D_is_number.bd .nil pass0 (pa_cons (pe_ix (ix_z (K := c.K) (w := w)) (pv 0) pe_int (fun _ _ => rfl)) pa_nil)))))))))), body_run ok r k ?_⟩
  obtain ⟨-, d, rfl, hf, hP⟩ := hF
  walk_at "dl"
  refine ite_b (fun hb => ?_) (fun hb => ?_)
  · walk_at "dl"
    exact fin hP (stamp_not3 (by simpa using hb)).symm
  · obtain ⟨a, b, n, rfl⟩ := tup3_of (by simpa using hb)
    walk_at "dl"
    refine ⟨by simp, (show 3 ≤ 1000000 by decide), isCount, fun x hx => ?_, ?_⟩
    · walk_at "dl"
      exact ⟨rfl, rfl⟩
    · walk_at "dl"
      refine ite_b (fun h1 => ?_) (fun h1 => ?_)
      · walk_at "dl"
        exact fin hP (stamp_no (Bool.not_eq_true' _ ▸ h1)).symm
      · have h1' : (isCount a && isCount b && isCount n) = true := by
          have q : [a, b, n].all isCount = true := by cases z : [a, b, n].all isCount <;> simp [z] at h1 ⊢
          simpa [Bool.and_assoc] using q
        obtain ⟨i, j, k, rfl, rfl, rfl, hi, hj, hk⟩ := counts3 h1'
        walk_at "dl"
        refine o_eq hf (by decide +kernel) (by simp [PyData.canLay0, PyData.canLayAll0]) (by decide +kernel) (by simp [PyData.depth, PyData.depthAll]) (by decide +kernel) ?_
        walk_at "dl"
        refine ite_b (fun h2 => ?_) (fun h2 => ?_)
        · exact fin hP (stamp_first h2).symm
        · walk_at "dl"
          refine ite_b (fun h3 => ?_) (fun h3 => ?_)
          · walk_at "dl"
            refine ite_b (fun h4 => ?_) (fun h4 => ?_)
            · walk_at "dl"
              exact fin hP (by rw [stamp_eq hi hj hk h2, h3, h4]; rfl)
            · exact fin hP (by rw [stamp_eq hi hj hk h2, h3, h4]; rfl)
          · exact fin hP (by rw [stamp_eq hi hj hk h2, h3]; rfl)
theorem ok_is_base {f : Addr} {fd : FuncData} (F : Fun K "is_base" "is_base" s_is_base f fd)   {f_is_stamp : Addr} {fd_is_stamp : FuncData} {ps_is_stamp : List Str} (D_is_stamp : L2.Def P w K mg base 4 "is_stamp" f_is_stamp fd_is_stamp ps_is_stamp (SpF K (FJ fit isStamp)))  : FnOk P w K mg base CX0 5 f fd ["thing"] (SpF K (FJ fit isBase)) := by
  refine F.ok sc_is_base (fun vs H Q E h => ?_) (fun cdv A outer s H vs Q E hr h => ?_)
  · exact lenF h fun c g es P h => h.1
  obtain ⟨c, I, g, es, P, rfl, ok, r, hF, k⟩ := h
  have nd := sc_is_base.nd
  have hu := hr.units
  have hu1 := hu_of hr
  refine ⟨_, (pss_one (L2.ps_ret (pe_or (pe_cmpR op_isN (pv 0) pe_non (nomark _)) (pe_one (pe_call D_is_stamp.ok (hr.mono (by first | decide | omega)) rfl D_is_stamp.at_ D_is_stamp.kp D_is_stamp.bd .nil pass0 (pa_cons (pv 0) pa_nil)))))), body_run ok r k ?_⟩
  obtain ⟨-, d, rfl, hf, hP⟩ := hF
  cases d <;> walk_at "dl" <;> exact hP
theorem ok_has_word {f : Addr} {fd : FuncData} (F : Fun K "has_word" "has_word" s_has_word f fd)   (B : Blt mg)  : FnOk P w K mg base CX0 1 f fd ["thing"] (SpF K (FJ any' isWord)) := by
  refine F.ok sc_has_word (fun vs H Q E h => ?_) (fun cdv A outer s H vs Q E hr h => ?_)
  · exact lenF h fun c g es P h => h.1
  obtain ⟨c, I, g, es, P, rfl, ok, r, hF, k⟩ := h
  have nd := sc_has_word.nd
  have hu := hr.units
  have hu1 := hu_of hr
  refine ⟨_, (pss_one (L2.ps_ret (pe_and (pe_callB (cr_isi (K := c.K)) (by rfl) B.isinstance_ (by decide +kernel) (pa_cons (pv 0) (pa_cons (pe_bltn (v := .ty "tuple") (by rfl) B.tuple_ PyProof.Rows.boot_tuple rfl) pa_nil))) (pe_and (pe_cmpR op_gt (pe_callB (cr_len (K := c.K)) (by rfl) B.len_ PySem.boot_len (pa_cons (pv 0) pa_nil)) pe_int (nomark _)) (pe_one (pe_callB (cr_isi (K := c.K)) (by rfl) B.isinstance_ (by decide +kernel) (pa_cons (pe_ix (ix_z (K := c.K) (w := w)) (pv 0) pe_int (fun _ _ => rfl)) (pa_cons (pe_bltn (v := .ty "str") (by rfl) B.str_ PyProof.Rows.boot_str rfl) pa_nil)))))))), body_run ok r k ?_⟩
  obtain ⟨-, d, rfl, -, hP⟩ := hF
  walk_at "dl"
  refine ite_b (fun hb => ?_) (fun hb => ?_)
  · obtain ⟨x, rfl⟩ := tup_of hb
    walk_at "dl"
    cases x with
    | nil => walk_at "dl"; exact hP
    | cons y ys =>
      refine ite_t (decide_eq_true (by simp only [List.length_cons]; omega)) ?_
      walk_at "dl"
      exact fin hP (by cases y <;> rfl)
  · exact fin hP (by cases d <;> first | rfl | cases hb)
end Pr
set_option Elab.async false
set_option linter.all false
set_option autoImplicit false
set_option maxRecDepth 100000
set_option maxHeartbeats 4000000
set_option pp.maxSteps 500
namespace Pr
open PySem PySem.Spec PyProof.Rows L2 Dl
local macro_rules | `(tactic| walk_at "dl1") => `(tactic| first
  | ((with_reducible show PSt _ _ _ _ _ _); first
    | (with_reducible refine ps_seq ?_)
    | (with_reducible refine ps_ret ?_)
    | (with_reducible refine ps_if ?_)
    | (with_reducible refine ps_set ?_)
    | (with_reducible refine ps_next ?_)
    | (with_reducible refine ps_drop ?_))
  | ((with_reducible show PV _ _ _ _ _); first
    | ((with_reducible refine' pv_var ?k1 ?_); (case k1 => rfl))
    | (with_reducible refine pv_int ?_)
    | (with_reducible refine pv_str ?_)
    | (with_reducible refine pv_bl ?_)
    | (with_reducible refine pv_non ?_)
    | (with_reducible refine pv_and ?_)
    | (with_reducible refine pv_or ?_)
    | (with_reducible refine pv_not ?_)
    | (with_reducible refine pv_if ?_)
    | (with_reducible refine pv_op ?_)
    | (with_reducible refine pv_un ?_)
    | (with_reducible refine pv_chain ?_)
    | (with_reducible refine pv_tup ?_)
    | (with_reducible refine pv_lst2 ?_)
    | (with_reducible refine pv_call ?_)
    | (with_reducible refine pv_allT ?_)
    | (with_reducible refine pv_allS ?_)
    | (with_reducible refine pv_allR ?_)
    | (with_reducible refine pv_lcT ?_)
    | (with_reducible refine pv_lcL ?_)
    | (with_reducible refine pv_lcTF ?_)
    | (with_reducible refine pv_listRg2 ?_)
    | (with_reducible refine pv_cb ?_)
    | (with_reducible refine pv_sl ?_)
    | ((with_reducible refine' pv_const ?k1 ?_); (case k1 => assumption))
    | ((with_reducible refine' pv_constR ?k1 ?_); (case k1 => assumption))
    | (with_reducible refine pv_raw ?_))
  | ((with_reducible show O2 _ _ _ _ _ _); first
    | (with_reducible refine o_add ?_)
    | (with_reducible refine o_ii ?_)
    | (with_reducible refine o_ib ?_)
    | (with_reducible refine o_le ?_)
    | (with_reducible refine o_lt ?_)
    | (with_reducible refine o_eqI ?_)
    | (with_reducible refine o_neI ?_)
    | (with_reducible refine o_eqS ?_)
    | (with_reducible refine o_eqB ?_)
    | (with_reducible refine o_neB ?_)
    | (with_reducible refine o_leS ?_)
    | (with_reducible refine o_inS ?_)
    | ((with_reducible refine' o_isN ?k1 ?_); (case k1 => rfl))
    | ((with_reducible refine' o_notN ?k1 ?_); (case k1 => rfl))
    | (with_reducible refine o_isntB ?_)
    | ((with_reducible refine' o_ixT ?k1 ?_); (case k1 => first | exact at0 | exact at1 | exact atI_nat (j := 2) rfl | exact atI_nat (j := 3) rfl | exact atI_nat (j := 4) rfl | exact atI_nat (j := 5) rfl | exact atI_nat (j := 6) rfl | rfl)))
  | ((with_reducible show OC _ _ _ _ _); first
    | (with_reducible refine oc_isi (isT_int _) ?_)
    | (with_reducible refine oc_isi (isT_bool _) ?_)
    | (with_reducible refine oc_isi (isT_str _) ?_)
    | (with_reducible refine oc_isi (isT_tuple _) ?_)
    | (with_reducible refine oc_isi (isT_list _) ?_)
    | (with_reducible refine oc_lenT ?_)
    | (with_reducible refine oc_lenL ?_)
    | (with_reducible refine oc_lenR ?_)
    | ((with_reducible refine oc_lenS ?k1 ?_); (case k1 => assumption)))
  | ((with_reducible show PAs _ _ _ _ _); first
    | (with_reducible refine pas_nil ?_)
    | (with_reducible refine pas_cons ?_))
  | ((with_reducible show PB _ _ _ _ _); first
    | (with_reducible refine pb_test' ?_)
    | (with_reducible refine pb_B ?_)
    | (with_reducible refine pb_and ?_)
    | (with_reducible refine pb_or ?_)
    | (with_reducible refine pb_not ?_))
  | ((with_reducible show PPart _ _ _ _ _); first
    | (with_reducible refine pp_none ?_)
    | (with_reducible refine pp_some ?_))
  | ((with_reducible show OSl _ _ _ _ _ _ _); first
    | (with_reducible refine os_tup ?_))
  | ((with_reducible refine ite_t ?k1 ?_); (case k1 => rfl))
  | ((with_reducible refine ite_f ?k1 ?_); (case k1 => rfl))
  | ((with_reducible refine use_FJ ?k1 ?_); (case k1 => first | rfl | assumption))
  | (with_reducible refine use_is_between ?_)
  | (with_reducible refine use_is_tuple_of ?_)
  | (refine Or.inl (Exists.intro _ (And.intro rfl (And.intro (le_line (Nat.le_of_ble_eq_true rfl)) ?_))))
  | (refine Or.inr (Exists.intro _ (And.intro rfl (And.intro (le_line (Nat.le_of_ble_eq_true rfl)) ?_))))
  | (with_reducible refine Exists.intro _ (And.intro rfl ?_))
  | ((with_reducible refine And.intro ?k1 ?_); (case k1 => exact le_line (Nat.le_of_ble_eq_true rfl))))
local macro_rules | `(tactic| walk_at "dl") => `(tactic| repeat walk_at "dl1")
variable {P : Program} {w : World} {K : PySem.W.Frag} {mg : Str → Option Value} {base : Heap}
theorem ok_are_all {f : Addr} {fd : FuncData} (F : Fun K "are_all" "are_all" s_are_all f fd)  {k : Nat} {tab : Tab} (HS : ∀ f sp, judgeS K tab f = some sp → L2.Held P w K mg base k f sp) (B : Blt mg)  : FnOk P w K mg base CX0 (k+1) f fd ["things", "tests"] (SpF K (F_are_all tab)) := by
  refine F.ok sc_are_all (fun vs H Q E h => ?_) (fun cdv A outer s H vs Q E hr h => ?_)
  · exact lenF h fun c g es P h => h.1
  obtain ⟨c, I, g, es, P, rfl, ok, r, hF, k⟩ := h
  have nd := sc_are_all.nd
  have hu := hr.units
  have hu1 := hu_of hr
  refine ⟨_, (pss_one (L2.ps_ret (pe_and (pe_cmpR (op_zeq (K := c.K) hu) (pe_callB (cr_len (K := c.K)) (by rfl) B.len_ PySem.boot_len (pa_cons (pv 0) pa_nil)) (pe_callB (cr_len (K := c.K)) (by rfl) B.len_ PySem.boot_len (pa_cons (pv 1) pa_nil)) (nomark _)) (pe_one (pe_callB (cr_allZ (K := c.K) rfl) (by rfl) B.all_ (by decide +kernel) (pa_cons (pe_lc (own := [("test", 2), ("one", 3)])  (tt := tYes) rfl nd (pi_zipZ (K := c.K) (by rfl) B.zip_ (pa_cons (pv 1) (pa_cons (pv 0) pa_nil))) (blkOk_by (N := ["things", "tests", "test", "one"]) (sc := defScope s_are_all) (by decide +kernel)) (fun _ _ _ _ _ => (pg_tupZ (n := 2) (K := c.K) rfl (pgs_cons (pg_name (i := 2) nd rfl (by first | exact Or.inl rfl | exact Or.inr rfl)) (pgs_cons (pg_name (i := 3) nd rfl (by first | exact Or.inl rfl | exact Or.inr rfl)) pgs_nil)))) (fun _ _ _ _ _ => pts_nil) (fun _ _ _ _ _ => (pe_callA (i := 2) (S := judgeS c.K tab) HS (hr.mono (by first | decide | omega)) rfl (by first | exact Or.inl rfl | exact Or.inr (Or.inl rfl) | exact Or.inr (Or.inr rfl)) (pa_cons (pv 3) pa_nil)))) pa_nil)))))), body_run ok r k ?_⟩
  obtain ⟨-, ds, fs, ps, rfl, hj, hf, hP⟩ := hF
  have hl : fs.length = ps.length := paired_len hj
  walk_at "dl"
  refine ite_b (fun hb => ?_) (fun hb => ?_)
  · have hb' : ds.length = ps.length := by have := of_decide_eq_true hb; omega
    refine pv_one (pv_all (js := [2, 3]) (pit_zipRT ?_))
    walk_at "dl"
    refine ⟨fs, ds, rfl, by simp, lt_line (Nat.le_trans (Nat.min_le_right _ _) (fit_tup.mp hf).1), judgeAt ps ds, fun i hi => ?_, ?_⟩
    · have hi1 : i < fs.length := by omega
      have hi2 : i < ds.length := by omega
      have hi3 : i < ps.length := by omega
      obtain ⟨p, hp, a, ha, ht⟩ := judges_get hj (List.getElem?_eq_getElem hi1)
      rw [zipR_at (by rw [List.getElem?_map, List.getElem?_eq_getElem hi1]; rfl) (by rw [List.getElem?_map, List.getElem?_eq_getElem hi2]; rfl)]
      rw [ha]
      refine pv_callA (F := FJ fit p) rfl (by rw [judgeS, ht]; rfl) ?_
      walk_at "dl"
      refine use_FJ ((fit_tup.mp hf).2 _ (List.getElem_mem hi2)) ?_
      refine ⟨?_, rfl⟩
      rw [judgeAt, hp, List.getElem?_eq_getElem hi2]
    · rw [hl, allP_range hb']
      exact hP
  · exact fin hP (allP_ne (by intro e; rw [hl, e] at hb; simp at hb))
theorem ok_is_edit {f : Addr} {fd : FuncData} (F : Fun K "is_edit" "is_edit" s_is_edit f fd) {a_EDITS : Addr} (C_EDITS : mg "EDITS" = some (.ref a_EDITS)) {es_EDITS : Array DictEntry} {n_EDITS : Nat} (K_EDITS : KDict K w a_EDITS es_EDITS n_EDITS) {tab : Tab} (T : TabK K w tab a_EDITS editTests) {f_has_word : Addr} {fd_has_word : FuncData} {ps_has_word : List Str} (D_has_word : L2.Def P w K mg base 1 "has_word" f_has_word fd_has_word ps_has_word (SpF K (FJ any' isWord))) {f_are_all : Addr} {fd_are_all : FuncData} {ps_are_all : List Str} (D_are_all : L2.Def P w K mg base 4 "are_all" f_are_all fd_are_all ps_are_all (SpF K (F_are_all tab)))  : FnOk P w K mg base CX0 5 f fd ["thing"] (SpF K (FJ fit isEdit)) := by
  refine F.ok sc_is_edit (fun vs H Q E h => ?_) (fun cdv A outer s H vs Q E hr h => ?_)
  · exact lenF h fun c g es P h => h.1
  obtain ⟨c, I, g, es, P, rfl, ok, r, hF, k⟩ := h
  have nd := sc_is_edit.nd
  have hu := hr.units
  have hu1 := hu_of hr
  refine ⟨_, (pss_one (L2.ps_ret (pe_and (pe_call D_has_word.ok (hr.mono (by first | decide | omega)) rfl D_has_word.at_ D_has_word.kp D_has_word.bd .nil pass0 (pa_cons (pv 0) pa_nil)) (pe_and (pe_cmpR (op_inK (K := c.K) K_EDITS) (pe_ix (ix_z (K := c.K) (w := w)) (pv 0) pe_int (fun _ _ => rfl)) (pe_glob (v := .ref a_EDITS) (by rfl) C_EDITS rfl) rfl) (pe_one (pe_call D_are_all.ok (hr.mono (by first | decide | omega)) rfl D_are_all.at_ D_are_all.kp D_are_all.bd .nil pass0 (pa_cons (pe_slice (sl_z (K := c.K)) (pv 0) (po_some pe_int) po_none) (pa_cons (pe_ix (ix_z (K := c.K) (w := w)) (pe_glob (v := .ref a_EDITS) (by rfl) C_EDITS rfl) (pe_ix (ix_z (K := c.K) (w := w)) (pv 0) pe_int (fun _ _ => rfl)) (fun _ _ => rfl)) pa_nil)))))))), body_run ok r k ?_⟩
  obtain ⟨-, d, rfl, hf, hP⟩ := hF
  walk_at "dl"
  refine ite_b (fun hb => ?_) (fun hb => ?_)
  · obtain ⟨z, rr, rfl⟩ := word_of hb
    walk_at "dl"
    cases e : editTests z with
    | none =>
      refine o_inK (T.no z e) ?_
      walk_at "dl"
      exact fin hP (byWord_none e)
    | some ps =>
      obtain ⟨t, fs, h1, h2, h3, h4⟩ := T.yes z ps e
      refine o_inK h1 ?_
      walk_at "dl"
      refine o_ixDT h2 h3 ?_
      walk_at "dl"
      rw [cut_tail]
      exact ⟨rfl, rr, fs, ps, rfl, h4, fit_tail hf, fin hP (byWord_some e)⟩
  · exact fin hP (byWord_word hb)
theorem ok_are_rows {f : Addr} {fd : FuncData} (F : Fun K "are_rows" "are_rows" s_are_rows f fd)  {k : Nat} {tab : Tab} (h1k : 1 ≤ k) (B : Blt mg) {f_are_all : Addr} {fd_are_all : FuncData} {ps_are_all : List Str} (D_are_all : L2.Def P w K mg base k "are_all" f_are_all fd_are_all ps_are_all (SpF K (F_are_all tab))) {f_are_ascending : Addr} {fd_are_ascending : FuncData} {ps_are_ascending : List Str} (D_are_ascending : L2.Def P w K mg base 1 "are_ascending" f_are_ascending fd_are_ascending ps_are_ascending (SpF K F_are_ascending))  : FnOk P w K mg base CX0 (k+1) f fd ["thing", "tests", "size"] (SpF K (F_are_rows tab)) := by
  refine F.ok sc_are_rows (fun vs H Q E h => ?_) (fun cdv A outer s H vs Q E hr h => ?_)
  · exact lenF h fun c g es P h => h.1
  obtain ⟨c, I, g, es, P, rfl, ok, r, hF, k⟩ := h
  have nd := sc_are_rows.nd
  have hu := hr.units
  have hu1 := hu_of hr
  refine ⟨_, (pss_cons (L2.ps_if (pt_not (pt_val (pe_callB (cr_isi (K := c.K)) (by rfl) B.isinstance_ (by decide +kernel) (pa_cons (pv 0) (pa_cons (pe_bltn (v := .ty "tuple") (by rfl) B.tuple_ PyProof.Rows.boot_tuple rfl) pa_nil))))) (pss_one (L2.ps_ret pe_bl)) pss_nil)
      (pss_cons (L2.ps_if (pt_not (pt_val (pe_callB (cr_allZ (K := c.K) rfl) (by rfl) B.all_ (by decide +kernel) (pa_cons (pe_lc (own := [("row", 3)]) (g := gName 3) (tt := tYes) rfl nd (pi_tupZ (K := c.K) (pv 0)) (blkOk_by (N := ["thing", "tests", "size", "row"]) (sc := defScope s_are_rows) (by decide +kernel)) (fun _ _ _ _ _ => pg_name (i := 3) nd rfl (Or.inl rfl)) (fun _ _ _ _ _ => pts_nil) (fun _ _ _ _ _ => (pe_and (pe_callB (cr_isi (K := c.K)) (by rfl) B.isinstance_ (by decide +kernel) (pa_cons (pv 3) (pa_cons (pe_bltn (v := .ty "tuple") (by rfl) B.tuple_ PyProof.Rows.boot_tuple rfl) pa_nil))) (pe_one (pe_call D_are_all.ok (hr.mono (by first | decide | omega)) rfl D_are_all.at_ D_are_all.kp D_are_all.bd .nil pass0 (pa_cons (pv 3) (pa_cons (pv 1) pa_nil))))))) pa_nil)))) (pss_one (L2.ps_ret pe_bl)) pss_nil)
      (pss_one (L2.ps_ret (pe_call D_are_ascending.ok (hr.mono (by first | decide | omega)) rfl D_are_ascending.at_ D_are_ascending.kp D_are_ascending.bd .nil pass0 (pa_cons (pe_lc (own := [("row", 3)]) (g := gName 3) (tt := tYes) rfl nd (pi_tupZ (K := c.K) (pv 0)) (blkOk_by (N := ["thing", "tests", "size", "row"]) (sc := defScope s_are_rows) (by decide +kernel)) (fun _ _ _ _ _ => pg_name (i := 3) nd rfl (Or.inl rfl)) (fun _ _ _ _ _ => pts_nil) (fun _ _ _ _ _ => (pe_slice (sl_z (K := c.K)) (pv 3) po_none (po_some (pv 2))))) pa_nil)))))), body_run ok r k ?_⟩
  obtain ⟨-, d, fs, ps, n, rfl, hj, hf, hr', hP⟩ := hF
  walk_at "dl"
  refine ite_b (fun hb => ?_) (fun hb => ?_)
  · walk_at "dl"
    exact fin hP (rows_not (by simpa using hb))
  · obtain ⟨rows, rfl⟩ := tup_of (d := d) (by simpa using hb)
    walk_at "dl"
    have hz := (fit_tup.mp hf).1
    refine ⟨by simp, hz, isRow ps, fun x hx => ?_, ?_⟩
    · walk_at "dl"
      refine ite_b (fun hb => ?_) (fun hb => ?_)
      · obtain ⟨xs, rfl⟩ := tup_of hb
        walk_at "dl"
        exact ⟨rfl, xs, fs, ps, rfl, hj, (fit_tup.mp hf).2 _ hx, rfl, rfl⟩
      · refine ⟨?_, rfl⟩
        rw [row_not hb]
    · walk_at "dl"
      refine ite_b (fun h1 => ?_) (fun h1 => ?_)
      · walk_at "dl"
        exact fin hP (rows_bad (by simpa using h1))
      · have h1' : rows.all (isRow ps) = true := by simpa using h1
        walk_at "dl"
        refine ⟨by simp, hz, cutT n, fun x hx => ?_, ?_⟩
        · obtain ⟨xs, ex, _⟩ := row_of (List.all_eq_true.mp h1' _ hx)
          subst ex
          walk_at "dl"
          exact ⟨by rw [cut_take]; rfl, rfl⟩
        · walk_at "dl"
          exact ⟨rfl, rows.map (cutT n), .inl rfl, by rw [List.length_map]; exact hz, rows_alike h1' hr', fin hP (rows_good h1')⟩
theorem ok_is_sheet {f : Addr} {fd : FuncData} (F : Fun K "is_sheet" "is_sheet" s_is_sheet f fd)  {tab : Tab} (B : Blt mg) {t_BOOT : Tok} (C_BOOT : mg "BOOT" = some (.int 0 t_BOOT)) {t_NUMBER : Tok} (C_NUMBER : mg "NUMBER" = some (.int 1 t_NUMBER)) {t_PENDING : Tok} (C_PENDING : mg "PENDING" = some (.int 2 t_PENDING)) {f_is_tuple_of : Addr} {fd_is_tuple_of : FuncData} {ps_is_tuple_of : List Str} (D_is_tuple_of : L2.Def P w K mg base 1 "is_tuple_of" f_is_tuple_of fd_is_tuple_of ps_is_tuple_of (SpF K F_is_tuple_of)) {f_is_count : Addr} {fd_is_count : FuncData} {ps_is_count : List Str} (D_is_count : L2.Def P w K mg base 2 "is_count" f_is_count fd_is_count ps_is_count (SpF K F_is_count)) {f_are_rows : Addr} {fd_are_rows : FuncData} {ps_are_rows : List Str} (D_are_rows : L2.Def P w K mg base 7 "are_rows" f_are_rows fd_are_rows ps_are_rows (SpF K (F_are_rows tab))) {f_is_number : Addr} {fd_is_number : FuncData} {ps_is_number : List Str} (D_is_number : L2.Def P w K mg base 2 "is_number" f_is_number fd_is_number ps_is_number (SpF K (FJ any' isNumber))) {f_is_name : Addr} {fd_is_name : FuncData} {ps_is_name : List Str} (D_is_name : L2.Def P w K mg base 1 "is_name" f_is_name fd_is_name ps_is_name (SpF K (FJ fit isName))) {f_is_base : Addr} {fd_is_base : FuncData} {ps_is_base : List Str} (D_is_base : L2.Def P w K mg base 5 "is_base" f_is_base fd_is_base ps_is_base (SpF K (FJ fit isBase))) {f_is_edit : Addr} {fd_is_edit : FuncData} {ps_is_edit : List Str} (D_is_edit : L2.Def P w K mg base 5 "is_edit" f_is_edit fd_is_edit ps_is_edit (SpF K (FJ fit isEdit))) (J1 : tab f_is_number = some isNumber) (J2 : tab f_is_name = some isName) (J3 : tab f_is_base = some isBase) (J4 : tab f_is_edit = some isEdit) : FnOk P w K mg base CX0 8 f fd ["thing"] (SpF K (FJ fit isSheet)) := by
  refine F.ok sc_is_sheet (fun vs H Q E h => ?_) (fun cdv A outer s H vs Q E hr h => ?_)
  · exact lenF h fun c g es P h => h.1
  obtain ⟨c, I, g, es, P, rfl, ok, r, hF, k⟩ := h
  have nd := sc_is_sheet.nd
  have hu := hr.units
  have hu1 := hu_of hr
  refine ⟨_, (pss_cons (L2.ps_if (PW.pt (pw_or (pt_not (pt_val (pe_call D_is_tuple_of.ok (hr.mono (by first | decide | omega)) rfl D_is_tuple_of.at_ D_is_tuple_of.kp D_is_tuple_of.bd .nil pass0 (pa_cons (pv 0) (pa_cons pe_int pa_nil))))) (pw_or (pt_not (pt_val (pe_call D_is_count.ok (hr.mono (by first | decide | omega)) rfl D_is_count.at_ D_is_count.kp D_is_count.bd .nil pass0 (pa_cons (pe_ix (ix_z (K := c.K) (w := w)) (pv 0) (pe_glob (v := .int 0) (by rfl) C_BOOT ⟨_, rfl⟩) (fun _ _ => rfl)) pa_nil)))) (pw_or1 (pt_not (pt_val (pe_call D_is_count.ok (hr.mono (by first | decide | omega)) rfl D_is_count.at_ D_is_count.kp D_is_count.bd .nil pass0 (pa_cons (pe_ix (ix_z (K := c.K) (w := w)) (pv 0) (pe_glob (v := .int 1) (by rfl) C_NUMBER ⟨_, rfl⟩) (fun _ _ => rfl)) pa_nil)))))))) (pss_one (L2.ps_ret pe_bl)) pss_nil)
      (pss_cons (L2.ps_if (pt_not (pt_val (pe_call D_are_rows.ok (hr.mono (by first | decide | omega)) rfl D_are_rows.at_ D_are_rows.kp D_are_rows.bd .nil pass0 (pa_cons (pe_ix (ix_z (K := c.K) (w := w)) (pv 0) (pe_glob (v := .int 2) (by rfl) C_PENDING ⟨_, rfl⟩) (fun _ _ => rfl)) (pa_cons (pe_lst (pa_cons (pe_glob (v := .ref f_is_number) (by rfl) D_is_number.at_ rfl) (pa_cons (pe_glob (v := .ref f_is_name) (by rfl) D_is_name.at_ rfl) (pa_cons (pe_glob (v := .ref f_is_base) (by rfl) D_is_base.at_ rfl) (pa_cons (pe_glob (v := .ref f_is_edit) (by rfl) D_is_edit.at_ rfl) pa_nil))))) (pa_cons pe_int pa_nil)))))) (pss_one (L2.ps_ret pe_bl)) pss_nil)
      (pss_cons (ps_setLc (i := 1) (own := [("write", 2)]) (g := gName 2) (tt := tYes) rfl nd rfl rfl (sw_true rfl rfl rfl (by decide +kernel)) (pi_tupZ (K := c.K) (pe_ix (ix_z (K := c.K) (w := w)) (pv 0) (pe_glob (v := .int 2) (by rfl) C_PENDING ⟨_, rfl⟩) (fun _ _ => rfl))) (blkOk_by (N := ["thing", "numbers", "write", "first"]) (sc := defScope s_is_sheet) (by decide +kernel)) (fun _ _ _ _ _ => pg_name (i := 2) nd rfl (Or.inl rfl)) (fun _ _ _ _ _ => pts_nil) (fun _ _ _ _ _ => (pe_ix (ix_z (K := c.K) (w := w)) (pv 2) pe_int (fun _ _ => rfl))))
      (pss_cons (L2.ps_set (i := 3) nd rfl (by first | exact Or.inl rfl | exact Or.inr rfl | exact Or.inr (Or.inl rfl)) (pe_op (op_zadd (K := c.K)) (pe_op op_sub (pe_ix (ix_z (K := c.K) (w := w)) (pv 0) (pe_glob (v := .int 1) (by rfl) C_NUMBER ⟨_, rfl⟩) (fun _ _ => rfl)) (pe_callB (cr_len (K := c.K)) (by rfl) B.len_ PySem.boot_len (pa_cons (pv 1) pa_nil))) pe_int))
      (pss_one (L2.ps_ret (pe_or (pe_and (pe_cmpR op_ge (pv 3) pe_int (nomark _)) (pe_one (pe_cmpR (op_zeq (K := c.K) hu) (pv 1) (pe_listRg rfl (by rfl) B.list_ (prg_2 (by rfl) B.range_ (pv 3) (pe_op (op_zadd (K := c.K)) (pe_ix (ix_z (K := c.K) (w := w)) (pv 0) (pe_glob (v := .int 1) (by rfl) C_NUMBER ⟨_, rfl⟩) (fun _ _ => rfl)) pe_int))) (nomark _)))) (pe_one (pe_cmpR (op_zeq (K := c.K) hu) (pe_callB (cr_len (K := c.K)) (by rfl) B.len_ PySem.boot_len (pa_cons (pv 1) pa_nil)) pe_int (nomark _)))))))))), body_run ok r k ?_⟩
  obtain ⟨-, d, rfl, hf, hP⟩ := hF
  walk_at "dl"
  refine ite_b (fun hb => ?_) (fun hb => ?_)
  · walk_at "dl"
    exact fin hP (sheet_not3 (by simpa using hb))
  · obtain ⟨b, n, p, rfl⟩ := tup3_of (d := d) (by simpa using hb)
    have hfp : fit p = true := (fit_tup.mp hf).2 p (by simp)
    have hfn : fit n = true := (fit_tup.mp hf).2 n (by simp)
    walk_at "dl"
    refine ite_b (fun h1 => ?_) (fun h1 => ?_)
    · walk_at "dl"
      exact fin hP (by rw [isSheet]; simp at h1; rw [h1, Bool.false_and, Bool.false_and])
    · walk_at "dl"
      refine ite_b (fun h2 => ?_) (fun h2 => ?_)
      · walk_at "dl"
        exact fin hP (by rw [isSheet]; simp at h2; rw [h2, Bool.and_false, Bool.false_and])
      · walk_at "dl"
        have h1' : isCount b = true := by simpa using h1
        have h2' : isCount n = true := by simpa using h2
        refine ⟨rfl, p, _, sheetTests, 1, rfl, .cons ⟨_, rfl, J1⟩ (.cons ⟨_, rfl, J2⟩ (.cons ⟨_, rfl, J3⟩ (.cons ⟨_, rfl, J4⟩ .nil))), hfp, rowsOk_num, ?_⟩
        walk_at "dl"
        refine ite_b (fun h3 => ?_) (fun h3 => ?_)
        · walk_at "dl"
          exact fin hP (by rw [isSheet]; simp at h3; rw [h3, Bool.false_and, Bool.and_false])
        · have h3' : areRows sheetTests 1 p = true := by simpa using h3
          obtain ⟨rows, rfl, hrow⟩ := rows_tup h3'
          obtain ⟨N, rfl, hN⟩ := count_of h2'
          have hz := (fit_tup.mp hfp).1
          have hr := rowsOk_head hrow
          have hNi := fit_int.mp hfn
          walk_at "dl"
          refine ⟨by simp, hz, head0, fun x hx => ?_, ?_⟩
          · obtain ⟨i, xs, rfl, _⟩ := hr x hx
            walk_at "dl"
            exact ⟨rfl, rfl⟩
          · have hl : (rows.map head0).length = rows.length := List.length_map ..
            walk_at "dl"
            rw [hl]
            refine ite_b (fun h4 => ?_) (fun h4 => ?_)
            · have h4' := of_decide_eq_true h4
              walk_at "dl"
              refine ⟨_, _, rfl, rfl, ⟨by omega, by omega, by omega, by omega, by omega⟩, ?_⟩
              refine o_eq (fit_ints (by rw [hl]; exact hz) ?_) (fit_ints (by unfold intsD; rw [List.length_map, List.length_range]; omega) ?_) (lay_ints ?_) (lay_ints ?_) (depth_ints ?_) (depth_ints ?_) ?_
              · intro x hx
                obtain ⟨r', hr', rfl⟩ := List.mem_map.mp hx
                obtain ⟨i, xs, rfl, _⟩ := hr r' hr'
                have := fit_int.mp ((fit_tup.mp ((fit_tup.mp hfp).2 _ hr')).2 (.int i) (by simp))
                exact ⟨i, rfl, this.1, this.2⟩
              · intro x hx
                obtain ⟨i, rfl, h5, h6⟩ := intsD_int x hx
                exact ⟨i, rfl, by omega, by omega⟩
              · intro x hx
                obtain ⟨r', hr', rfl⟩ := List.mem_map.mp hx
                obtain ⟨i, xs, rfl, _⟩ := hr r' hr'
                exact ⟨i, rfl⟩
              · intro x hx
                obtain ⟨i, rfl, _⟩ := intsD_int x hx
                exact ⟨i, rfl⟩
              · intro x hx
                obtain ⟨r', hr', rfl⟩ := List.mem_map.mp hx
                obtain ⟨i, xs, rfl, _⟩ := hr r' hr'
                exact ⟨i, rfl⟩
              · intro x hx
                obtain ⟨i, rfl, _⟩ := intsD_int x hx
                exact ⟨i, rfl⟩
              · walk_at "dl"
                refine ite_b (fun h5 => ?_) (fun h5 => ?_)
                · exact fin hP (by rw [sheet_eq h1' h2' h3', h4, h5]; rfl)
                · walk_at "dl"
                  rw [hl]
                  exact fin hP (by rw [sheet_eq h1' h2' h3', h4, h5]; rfl)
            · walk_at "dl"
              rw [hl]
              exact fin hP (by rw [sheet_eq h1' h2' h3', h4]; rfl)
theorem ok_is_note {f : Addr} {fd : FuncData} (F : Fun K "is_note" "is_note" s_is_note f fd) {a_NOTES : Addr} (C_NOTES : mg "NOTES" = some (.ref a_NOTES)) {es_NOTES : Array DictEntry} {n_NOTES : Nat} (K_NOTES : KDict K w a_NOTES es_NOTES n_NOTES) {tab : Tab} (T : TabK K w tab a_NOTES noteTests) {f_has_word : Addr} {fd_has_word : FuncData} {ps_has_word : List Str} (D_has_word : L2.Def P w K mg base 1 "has_word" f_has_word fd_has_word ps_has_word (SpF K (FJ any' isWord))) {f_are_all : Addr} {fd_are_all : FuncData} {ps_are_all : List Str} (D_are_all : L2.Def P w K mg base 9 "are_all" f_are_all fd_are_all ps_are_all (SpF K (F_are_all tab)))  : FnOk P w K mg base CX0 10 f fd ["thing"] (SpF K (FJ fit isNote)) := by
  refine F.ok sc_is_note (fun vs H Q E h => ?_) (fun cdv A outer s H vs Q E hr h => ?_)
  · exact lenF h fun c g es P h => h.1
  obtain ⟨c, I, g, es, P, rfl, ok, r, hF, k⟩ := h
  have nd := sc_is_note.nd
  have hu := hr.units
  have hu1 := hu_of hr
  refine ⟨_, (pss_one (L2.ps_ret (pe_and (pe_call D_has_word.ok (hr.mono (by first | decide | omega)) rfl D_has_word.at_ D_has_word.kp D_has_word.bd .nil pass0 (pa_cons (pv 0) pa_nil)) (pe_and (pe_cmpR (op_inK (K := c.K) K_NOTES) (pe_ix (ix_z (K := c.K) (w := w)) (pv 0) pe_int (fun _ _ => rfl)) (pe_glob (v := .ref a_NOTES) (by rfl) C_NOTES rfl) rfl) (pe_one (pe_call D_are_all.ok (hr.mono (by first | decide | omega)) rfl D_are_all.at_ D_are_all.kp D_are_all.bd .nil pass0 (pa_cons (pe_slice (sl_z (K := c.K)) (pv 0) (po_some pe_int) po_none) (pa_cons (pe_ix (ix_z (K := c.K) (w := w)) (pe_glob (v := .ref a_NOTES) (by rfl) C_NOTES rfl) (pe_ix (ix_z (K := c.K) (w := w)) (pv 0) pe_int (fun _ _ => rfl)) (fun _ _ => rfl)) pa_nil)))))))), body_run ok r k ?_⟩
  obtain ⟨-, d, rfl, hf, hP⟩ := hF
  walk_at "dl"
  refine ite_b (fun hb => ?_) (fun hb => ?_)
  · obtain ⟨z, rr, rfl⟩ := word_of hb
    walk_at "dl"
    cases e : noteTests z with
    | none =>
      refine o_inK (T.no z e) ?_
      walk_at "dl"
      exact fin hP (byWord_none e)
    | some ps =>
      obtain ⟨t, fs, h1, h2, h3, h4⟩ := T.yes z ps e
      refine o_inK h1 ?_
      walk_at "dl"
      refine o_ixDT h2 h3 ?_
      walk_at "dl"
      rw [cut_tail]
      exact ⟨rfl, rr, fs, ps, rfl, h4, fit_tail hf, fin hP (byWord_some e)⟩
  · exact fin hP (byWord_word hb)
theorem ok_bare_sheet {f : Addr} {fd : FuncData} (F : Fun K "bare_sheet" "bare_sheet" s_bare_sheet f fd) {a_BARE_SHEET : Addr} (C_BARE_SHEET : mg "BARE_SHEET" = some (.ref a_BARE_SHEET)) (Z_BARE_SHEET : ∀ I, Dl.Dp K I (.ref a_BARE_SHEET) (.tuple [(.int 0), (.int 0), (.tuple [])]))    : FnOk P w K mg base CX0 1 f fd [] (SpF K F_bare_sheet) := by
  refine F.ok sc_bare_sheet (fun vs H Q E h => ?_) (fun cdv A outer s H vs Q E hr h => ?_)
  · exact lenF h fun c g es P h => h.1
  obtain ⟨c, I, g, es, P, rfl, ok, r, hF, k⟩ := h
  have nd := sc_bare_sheet.nd
  have hu := hr.units
  have hu1 := hu_of hr
  refine ⟨_, (pss_one (L2.ps_ret (pe_glob (v := .ref a_BARE_SHEET) (by rfl) C_BARE_SHEET rfl))), body_run ok r k ?_⟩
  obtain ⟨-, rfl, hP⟩ := hF
  walk_at "dl"
  exact hP
theorem ok_raw_noted {f : Addr} {fd : FuncData} (F : Fun K "raw_noted" "raw_noted" s_raw_noted f fd)   (B : Blt mg)  : FnOk P w K mg base CX0 1 f fd ["sheet", "deed"] (SpF K F_raw_noted) := by
  refine F.ok sc_raw_noted (fun vs H Q E h => ?_) (fun cdv A outer s H vs Q E hr h => ?_)
  · exact lenF h fun c g es P h => h.1
  obtain ⟨c, I, g, es, P, rfl, ok, r, hF, k⟩ := h
  have nd := sc_raw_noted.nd
  have hu := hr.units
  have hu1 := hu_of hr
  refine ⟨_, (pss_cons (ps_asg (pv 0) (pg_tupZ (n := 3) (K := c.K) rfl (pgs_cons (pg_name (i := 2) nd rfl (by first | exact Or.inl rfl | exact Or.inr rfl)) (pgs_cons (pg_name (i := 3) nd rfl (by first | exact Or.inl rfl | exact Or.inr rfl)) (pgs_cons (pg_name (i := 4) nd rfl (by first | exact Or.inl rfl | exact Or.inr rfl)) pgs_nil)))))
      (pss_cons (ps_par (i := 5) (j := 6) rfl nd rfl rfl (by decide) rfl rfl (pa_cons (pe_ix (ix_z (K := c.K) (w := w)) (pv 1) pe_int (fun _ _ => rfl)) (pa_cons (pe_slice (sl_z (K := c.K)) (pv 1) (po_some pe_int) po_none) pa_nil)) (by rfl))
      (pss_cons (L2.ps_if (pt_cmpR (op_zeq (K := c.K) hu) (pv 5) pe_str (nomark _)) (pss_one (L2.ps_ret (pe_tup (pa_cons (pe_op (op_zadd (K := c.K)) (pv 2) pe_int) (pa_cons (pv 3) (pa_cons (pv 4) pa_nil)))))) pss_nil)
      (pss_cons (L2.ps_if (pt_cmpR (op_zeq (K := c.K) hu) (pv 5) pe_str (nomark _)) (pss_one (L2.ps_ret (pe_tup (pa_cons (pv 2) (pa_cons (pe_op (op_zadd (K := c.K)) (pv 3) pe_int) (pa_cons (pe_op (op_zadd (K := c.K)) (pv 4) (pe_tup (pa_cons (pe_op (op_zadd (K := c.K)) (pe_tup (pa_cons (pe_op (op_zadd (K := c.K)) (pv 3) pe_int) pa_nil)) (pv 6)) pa_nil))) pa_nil)))))) pss_nil)
      (pss_cons (L2.ps_if (pt_cmpR (op_zeq (K := c.K) hu) (pv 5) pe_str (nomark _)) (pss_one (L2.ps_ret (pe_tup (pa_cons (pv 2) (pa_cons (pv 3) (pa_cons (pe_ifExp (PW.pt (pw_and (pt_cmpR op_gt (pe_callB (cr_len (K := c.K)) (by rfl) B.len_ PySem.boot_len (pa_cons (pv 4) pa_nil)) pe_int (nomark _)) (pw_and1 (pt_cmpR (op_zeq (K := c.K) hu) (pe_ix (ix_z (K := c.K) (w := w)) (pe_ix (ix_z (K := c.K) (w := w)) (pv 4) pe_int (fun _ _ => rfl)) pe_int (fun _ _ => rfl)) (pe_ix (ix_z (K := c.K) (w := w)) (pv 6) pe_int (fun _ _ => rfl)) (nomark _))))) (pe_slice (sl_z (K := c.K)) (pv 4) (po_some pe_int) po_none) (pv 4)) pa_nil)))))) pss_nil)
      (pss_one (L2.ps_ret (pe_ix (ix_z (K := c.K) (w := w)) (pv 6) pe_int (fun _ _ => rfl))))))))), body_run ok r k ?_⟩
  obtain ⟨-, b, n, p, z, rest, rfl, hp, hr, hset, hne, hP⟩ := hF
  refine Dl.ps_seq (ps_un3 ?_)
  walk_at "dl"
  refine ⟨_, _, _, rfl, ?_⟩
  refine Dl.ps_seq (ps_par2 ?_)
  walk_at "dl"
  rw [cut_tail]
  refine ⟨_, _, rfl, ?_⟩
  walk_at "dl"
  refine ite_b (fun h1 => ?_) (fun h1 => ?_)
  · walk_at "dl"
    exact fin' hP (by unfold rawNoted; rw [if_pos (of_decide_eq_true h1)])
  · have n1 := of_decide_eq_false h1
    walk_at "dl"
    refine ite_b (fun h2 => ?_) (fun h2 => ?_)
    · walk_at "dl"
      refine o_addT (by show 1 + rest.length ≤ sizeLine; exact le_line (by omega)) ?_
      walk_at "dl"
      refine o_addT (by show p.length + 1 ≤ sizeLine; exact Nat.succ_le_of_lt (lt_line hp)) ?_
      walk_at "dl"
      exact fin' hP (by unfold rawNoted; rw [if_neg n1, if_pos (of_decide_eq_true h2)]; rfl)
    · have n2 := of_decide_eq_false h2
      walk_at "dl"
      refine ite_b (fun h3 => ?_) (fun h3 => ?_)
      · have e3 := of_decide_eq_true h3
        obtain ⟨⟨k', rfl⟩, hrow⟩ := hset e3
        cases p with
        | nil =>
          walk_at "dl"
          exact fin' hP (by unfold rawNoted; rw [if_neg n1, if_neg n2, if_pos e3]; rfl)
        | cons x xs =>
          obtain ⟨i, ys, rfl⟩ := hrow x (by simp)
          walk_at "dl"
          refine ite_t (decide_eq_true (by simp only [List.length_cons]; omega)) ?_
          walk_at "dl"
          refine ite_b (fun h4 => ?_) (fun h4 => ?_)
          · walk_at "dl"
            rw [cut_tail]
            exact fin' hP (by unfold rawNoted; rw [if_neg n1, if_neg n2, if_pos e3]; simp only [settles, h4, if_true]; rfl)
          · walk_at "dl"
            exact fin' hP (by unfold rawNoted; rw [if_neg n1, if_neg n2, if_pos e3]; simp only [settles, h4]; rfl)
      · have n3 := of_decide_eq_false h3
        cases rest with
        | nil => exact absurd rfl (hne n1)
        | cons x xs =>
          walk_at "dl"
          exact fin' hP (by unfold rawNoted; rw [if_neg n1, if_neg n2, if_neg n3]; rfl)
theorem ok_check_sheet {f : Addr} {fd : FuncData} (F : Fun K "check_sheet" "check_sheet" s_check_sheet f fd)   {C_NoSheet : Addr} (X_NoSheet : ExcD K mg "NoSheet" C_NoSheet) {f_is_sheet : Addr} {fd_is_sheet : FuncData} {ps_is_sheet : List Str} (D_is_sheet : L2.Def P w K mg base 8 "is_sheet" f_is_sheet fd_is_sheet ps_is_sheet (SpF K (FJ fit isSheet)))  : FnOk P w K mg base (L2.CX P w) 9 f fd ["thing"] (SpX K (F_check_sheetX C_NoSheet)) := by
  refine F.okX sc_check_sheet (fun vs H Q E h => ?_) (fun cdv A outer s H vs Q E hr h => ?_)
  · exact lenX h fun c g es P R h => h.1
  obtain ⟨c, I, g, es, P, R, rfl, ok, r, hF, k, kx⟩ := h
  have nd := sc_check_sheet.nd
  have hu := hr.units
  have hu1 := hu_of hr
  refine okX_go (takes_of rfl rfl rfl rfl) (fun W tk => (pss_one (L2.ps_if (pt_not (pt_val (pe_call D_is_sheet.ok (hr.mono (by first | decide | omega)) rfl D_is_sheet.at_ D_is_sheet.kp D_is_sheet.bd .nil pass0 (pa_cons (pv 0) pa_nil)))) (pss_one (ps_raise0 rfl tk X_NoSheet (by rfl))) pss_nil))) ok r k kx fun W => ?_
  obtain ⟨-, d, rfl, hf, h1, h2⟩ := hF
  refine psx_if ?_
  walk_at "dl"
  refine ite_b (fun hb => ?_) (fun hb => ?_)
  · refine psx_raise ?_
    exact h2 (by simpa using hb)
  · refine psx_lift ?_
    walk_at "dl"
    exact h1 (by simpa using hb)
theorem ok_noted_behind {f : Addr} {fd : FuncData} (F : Fun K "noted_behind" "noted_behind" s_noted_behind f fd)  {C_NoSheet : Addr} {C_NoNote : Addr} (X_NoNote : ExcD K mg "NoNote" C_NoNote) {f_check_sheet : Addr} {fd_check_sheet : FuncData} {ps_check_sheet : List Str} (D_check_sheet : DefX P w K mg base 9 "check_sheet" f_check_sheet fd_check_sheet ps_check_sheet (SpX K (F_check_sheetX C_NoSheet))) {f_is_note : Addr} {fd_is_note : FuncData} {ps_is_note : List Str} (D_is_note : L2.Def P w K mg base 10 "is_note" f_is_note fd_is_note ps_is_note (SpF K (FJ fit isNote))) {f_raw_noted : Addr} {fd_raw_noted : FuncData} {ps_raw_noted : List Str} (D_raw_noted : L2.Def P w K mg base 1 "raw_noted" f_raw_noted fd_raw_noted ps_raw_noted (SpF K F_raw_noted))  : FnOk P w K mg base (L2.CX P w) 11 f fd ["sheet", "deed"] (SpX K (F_noted_behindX C_NoSheet C_NoNote)) := by
  refine F.okX sc_noted_behind (fun vs H Q E h => ?_) (fun cdv A outer s H vs Q E hr h => ?_)
  · exact lenX h fun c g es P R h => h.1
  obtain ⟨c, I, g, es, P, R, rfl, ok, r, hF, k, kx⟩ := h
  have nd := sc_noted_behind.nd
  have hu := hr.units
  have hu1 := hu_of hr
  refine okX_go (takes_of rfl rfl rfl rfl) (fun W tk => (pss_cons (L2.ps_expr (pe_callS D_check_sheet.ok (hr.mono (by first | decide | omega)) rfl D_check_sheet.at_ D_check_sheet.kp D_check_sheet.bd (fun σ => passAt tk σ) (pa_cons (pv 0) pa_nil)))
      (pss_cons (L2.ps_if (pt_not (pt_val (pe_call D_is_note.ok (hr.mono (by first | decide | omega)) rfl D_is_note.at_ D_is_note.kp D_is_note.bd .nil pass0 (pa_cons (pv 1) pa_nil)))) (pss_one (ps_raise0 rfl tk X_NoNote (by rfl))) pss_nil)
      (pss_one (L2.ps_ret (pe_call D_raw_noted.ok (hr.mono (by first | decide | omega)) rfl D_raw_noted.at_ D_raw_noted.kp D_raw_noted.bd .nil pass0 (pa_cons (pv 0) (pa_cons (pv 1) pa_nil)))))))) ok r k kx fun W => ?_
  obtain ⟨-, sh, d, rfl, hfs, hfd, h1, h2, hP⟩ := hF
  refine psx_seq (psx_drop (pvx_call ?_))
  walk_at "dl"
  refine ⟨rfl, _, rfl, hfs, fun hs => ?_, h1⟩
  refine psx_seq (psx_if ?_)
  walk_at "dl"
  refine ite_b (fun hb => ?_) (fun hb => ?_)
  · refine psx_raise ?_
    exact h2 hs (by simpa using hb)
  · have hn : isNote d = true := by simpa using hb
    obtain ⟨b, n, p, rfl, hrow⟩ := sheet_of hs
    obtain ⟨z, rest, rfl, hl, hset, hne⟩ := note_of hn
    refine psx_lift ?_
    walk_at "dl"
    refine psx_lift ?_
    walk_at "dl"
    exact ⟨rfl, b, n, p, z, rest, rfl, (fit_tup.mp ((fit_tup.mp hfs).2 _ (by simp))).1, hl, fun e => ⟨hset e, hrow⟩, hne, hP hs hn⟩
end Pr
set_option Elab.async false
set_option linter.all false
set_option autoImplicit false
set_option maxRecDepth 100000
set_option maxHeartbeats 4000000
set_option pp.maxSteps 500
namespace Pr
open PySem PySem.Spec PyProof.Rows L2 Dl
abbrev s__law_pot : Stmt := topS 47
theorem sc__law_pot : FnScope ["_law_script", "_law_cells", "_law_cell"] ["_law_script"] (defScope s__law_pot) := ⟨rfl, rfl, rfl, by decide +kernel, rfl, by decide +kernel, by decide +kernel⟩
abbrev s__law_draw : Stmt := topS 48
theorem sc__law_draw : FnScope ["_law_pot_here", "_law_many", "_law_cell", "_law_digit", "_law_number"] ["_law_pot_here", "_law_many"] (defScope s__law_draw) := ⟨rfl, rfl, rfl, by decide +kernel, rfl, by decide +kernel, by decide +kernel⟩
abbrev s__law_any : Stmt := topS 49
theorem sc__law_any : FnScope ["_law_pot_here", "_law_things"] ["_law_pot_here", "_law_things"] (defScope s__law_any) := ⟨rfl, rfl, rfl, by decide +kernel, rfl, by decide +kernel, by decide +kernel⟩
abbrev s__law_signs : Stmt := topS 52
theorem sc__law_signs : FnScope ["_law_pot_here", "_law_many", "_law_signs_here", "_law_k"] ["_law_pot_here", "_law_many"] (defScope s__law_signs) := ⟨rfl, rfl, rfl, by decide +kernel, rfl, by decide +kernel, by decide +kernel⟩
abbrev s__law_text : Stmt := topS 53
theorem sc__law_text : FnScope ["_law_pot_here"] ["_law_pot_here"] (defScope s__law_text) := ⟨rfl, rfl, rfl, by decide +kernel, rfl, by decide +kernel, by decide +kernel⟩
abbrev s__law_name : Stmt := topS 54
theorem sc__law_name : FnScope ["_law_pot_here", "_law_many", "_law_k"] ["_law_pot_here"] (defScope s__law_name) := ⟨rfl, rfl, rfl, by decide +kernel, rfl, by decide +kernel, by decide +kernel⟩
abbrev s__law_edit : Stmt := topS 68
theorem sc__law_edit : FnScope ["_law_pot_here", "_law_name_here", "_law_client", "_law_number", "_law_some"] ["_law_pot_here"] (defScope s__law_edit) := ⟨rfl, rfl, rfl, by decide +kernel, rfl, by decide +kernel, by decide +kernel⟩
abbrev s__law_deep : Stmt := topS 59
theorem sc__law_deep : FnScope ["_law_pot_here", "_law_found", "_law_turn"] ["_law_pot_here"] (defScope s__law_deep) := ⟨rfl, rfl, rfl, by decide +kernel, rfl, by decide +kernel, by decide +kernel⟩
abbrev s__law_base : Stmt := topS 69
theorem sc__law_base : FnScope ["_law_pot_here", "_law_stamp"] ["_law_pot_here"] (defScope s__law_base) := ⟨rfl, rfl, rfl, by decide +kernel, rfl, by decide +kernel, by decide +kernel⟩
abbrev s__law_sheet : Stmt := topS 70
theorem sc__law_sheet : FnScope ["_law_pot_here", "_law_number", "_law_pending", "_law_k"] ["_law_pot_here"] (defScope s__law_sheet) := ⟨rfl, rfl, rfl, by decide +kernel, rfl, by decide +kernel, by decide +kernel⟩
abbrev s__law_note : Stmt := topS 71
theorem sc__law_note : FnScope ["_law_pot_here", "_law_sheet_here", "_law_number", "_law_some"] ["_law_pot_here", "_law_sheet_here"] (defScope s__law_note) := ⟨rfl, rfl, rfl, by decide +kernel, rfl, by decide +kernel, by decide +kernel⟩
abbrev s__law_bent : Stmt := topS 73
theorem sc__law_bent : FnScope ["_law_pot_here", "_law_thing", "_law_at", "_law_some"] ["_law_pot_here", "_law_thing"] (defScope s__law_bent) := ⟨rfl, rfl, rfl, by decide +kernel, rfl, by decide +kernel, by decide +kernel⟩
abbrev s__law_is_int : Stmt := topS 60
theorem sc__law_is_int : FnScope ["_law_thing", "_law_least"] ["_law_thing", "_law_least"] (defScope s__law_is_int) := ⟨rfl, rfl, rfl, by decide +kernel, rfl, by decide +kernel, by decide +kernel⟩
abbrev s__law_is_name : Stmt := topS 61
theorem sc__law_is_name : FnScope ["_law_thing", "_law_sign"] ["_law_thing"] (defScope s__law_is_name) := ⟨rfl, rfl, rfl, by decide +kernel, rfl, by decide +kernel, by decide +kernel⟩
abbrev s__law_is_text : Stmt := topS 62
theorem sc__law_is_text : FnScope ["_law_thing", "_law_sign"] ["_law_thing"] (defScope s__law_is_text) := ⟨rfl, rfl, rfl, by decide +kernel, rfl, by decide +kernel, by decide +kernel⟩
abbrev s__law_is_client : Stmt := topS 63
theorem sc__law_is_client : FnScope ["_law_thing"] ["_law_thing"] (defScope s__law_is_client) := ⟨rfl, rfl, rfl, by decide +kernel, rfl, by decide +kernel, by decide +kernel⟩
abbrev s__law_is_base : Stmt := topS 64
theorem sc__law_is_base : FnScope ["_law_thing", "_law_one"] ["_law_thing"] (defScope s__law_is_base) := ⟨rfl, rfl, rfl, by decide +kernel, rfl, by decide +kernel, by decide +kernel⟩
abbrev s__law_is_edit : Stmt := topS 65
theorem sc__law_is_edit : FnScope ["_law_thing", "_law_word_here", "_law_rest"] ["_law_thing"] (defScope s__law_is_edit) := ⟨rfl, rfl, rfl, by decide +kernel, rfl, by decide +kernel, by decide +kernel⟩
abbrev s__law_is_sheet : Stmt := topS 66
theorem sc__law_is_sheet : FnScope ["_law_thing", "_law_row", "_law_first", "_law_k", "_law_number", "_law_name_here", "_law_base_here", "_law_edit_here"] ["_law_thing"] (defScope s__law_is_sheet) := ⟨rfl, rfl, rfl, by decide +kernel, rfl, by decide +kernel, by decide +kernel⟩
abbrev s__law_is_note : Stmt := topS 67
theorem sc__law_is_note : FnScope ["_law_thing"] ["_law_thing"] (defScope s__law_is_note) := ⟨rfl, rfl, rfl, by decide +kernel, rfl, by decide +kernel, by decide +kernel⟩
abbrev s__law_behind : Stmt := topS 72
theorem sc__law_behind : FnScope ["_law_sheet_here", "_law_deed", "_law_boot", "_law_number", "_law_pending"] ["_law_sheet_here", "_law_deed"] (defScope s__law_behind) := ⟨rfl, rfl, rfl, by decide +kernel, rfl, by decide +kernel, by decide +kernel⟩
abbrev s__law_is : Stmt := topS 51
theorem sc__law_is : FnScope ["_law_told", "_law_due", "_law_k"] ["_law_told", "_law_due"] (defScope s__law_is) := ⟨rfl, rfl, rfl, by decide +kernel, rfl, by decide +kernel, by decide +kernel⟩
abbrev s__law_flag : Stmt := topS 74
theorem sc__law_flag : FnScope ["_law_told", "_law_due"] ["_law_told", "_law_due"] (defScope s__law_flag) := ⟨rfl, rfl, rfl, by decide +kernel, rfl, by decide +kernel, by decide +kernel⟩
abbrev s__law_word : Stmt := topS 75
theorem sc__law_word : FnScope ["_law_sheet_here", "_law_deed", "_law_told", "e", "_law_flags"] ["_law_sheet_here", "_law_deed"] (defScope s__law_word) := ⟨rfl, rfl, rfl, by decide +kernel, rfl, by decide +kernel, by decide +kernel⟩
abbrev s_law : Stmt := topS 76
theorem sc_law : FnScope ["_law_script", "_law_pot_here", "_law_turn", "_law_sheet_here", "_law_deed", "_law_one", "_law_other", "_law_due"] ["_law_script"] (defScope s_law) := ⟨rfl, rfl, rfl, by decide +kernel, rfl, by decide +kernel, by decide +kernel⟩
local macro_rules | `(tactic| walk_at "ds1") => `(tactic| first
  | ((with_reducible show PSt _ _ _ _ _ _); first
    | (with_reducible refine ps_seq ?_)
    | (with_reducible refine ps_ret ?_)
    | (with_reducible refine ps_if ?_)
    | (with_reducible refine ps_set ?_)
    | (with_reducible refine ps_next ?_)
    | (with_reducible refine ps_drop ?_)
    | (with_reducible refine ps_setix ?_))
  | ((with_reducible show PV _ _ _ _ _); first
    | ((with_reducible refine' pv_var ?k1 ?_); (case k1 => rfl))
    | (with_reducible refine pv_int ?_)
    | (with_reducible refine pv_str ?_)
    | (with_reducible refine pv_bl ?_)
    | (with_reducible refine pv_non ?_)
    | (with_reducible refine pv_and ?_)
    | (with_reducible refine pv_or ?_)
    | (with_reducible refine pv_not ?_)
    | (with_reducible refine pv_if ?_)
    | (with_reducible refine pv_op ?_)
    | (with_reducible refine pv_un ?_)
    | (with_reducible refine pv_chain ?_)
    | (with_reducible refine pv_tup ?_)
    | (with_reducible refine pv_call ?_)
    | (with_reducible refine pv_allT ?_)
    | (with_reducible refine pv_allS ?_)
    | (with_reducible refine pv_allR ?_)
    | (with_reducible refine pv_lcT ?_)
    | (with_reducible refine pv_lcL ?_)
    | (with_reducible refine pv_lcTF ?_)
    | (with_reducible refine pv_listRg2 ?_)
    | (with_reducible refine pv_cb ?_)
    | (with_reducible refine pv_sl ?_)
    | (with_reducible refine pv_dget ?_)
    | ((with_reducible refine' pv_const ?k1 ?_); (case k1 => assumption))
    | (with_reducible refine pv_raw ?_))
  | ((with_reducible show O2 _ _ _ _ _ _); first
    | (with_reducible refine o_add ?_)
    | ((with_reducible refine' o_iic ?k1 ?_); (case k1 => first | (show (0 : Int) < _; first | decide | assumption | omega) | exact Or.inr ⟨by decide, by decide⟩ | exact Or.inl ⟨by decide, by decide⟩))
    | (with_reducible refine o_ii ?_)
    | (with_reducible refine o_ib ?_)
    | (with_reducible refine o_le ?_)
    | (with_reducible refine o_lt ?_)
    | (with_reducible refine o_eqI ?_)
    | (with_reducible refine o_neI ?_)
    | (with_reducible refine o_eqS ?_)
    | (with_reducible refine o_eqB ?_)
    | (with_reducible refine o_neB ?_)
    | (with_reducible refine o_leS ?_)
    | (with_reducible refine o_inS ?_)
    | ((with_reducible refine' o_isN ?k1 ?_); (case k1 => rfl))
    | ((with_reducible refine' o_notN ?k1 ?_); (case k1 => rfl))
    | (with_reducible refine o_isntB ?_)
    | ((with_reducible refine' o_ixM ?k1 ?k2 ?_); (case k1 => first | assumption | exact put_same); (case k2 => first | exact at0 | exact at1 | exact atI_nat (j := 2) rfl | exact atI_nat (j := 3) rfl | exact atI_nat (j := 4) rfl))
    | ((with_reducible refine' o_ixT ?k1 ?_); (case k1 => first | exact at0 | exact at1 | exact atI_nat (j := 2) rfl | exact atI_nat (j := 3) rfl | exact atI_nat (j := 4) rfl | exact atI_nat (j := 5) rfl | exact atI_nat (j := 6) rfl | rfl)))
  | ((with_reducible show OC _ _ _ _ _); first
    | (with_reducible refine oc_isi (isT_int _) ?_)
    | (with_reducible refine oc_isi (isT_bool _) ?_)
    | (with_reducible refine oc_isi (isT_str _) ?_)
    | (with_reducible refine oc_isi (isT_tuple _) ?_)
    | (with_reducible refine oc_isi (isT_list _) ?_)
    | (with_reducible refine oc_lenT ?_)
    | (with_reducible refine oc_lenL ?_)
    | (with_reducible refine oc_lenR ?_)
    | (with_reducible refine oc_int ?_)
    | (with_reducible refine oc_abs ?_)
    | ((with_reducible refine oc_lenS ?k1 ?_); (case k1 => assumption)))
  | ((with_reducible show PAs _ _ _ _ _); first
    | (with_reducible refine pas_nil ?_)
    | (with_reducible refine pas_cons ?_))
  | ((with_reducible show PB _ _ _ _ _); first
    | (with_reducible refine pb_test' ?_)
    | (with_reducible refine pb_B ?_)
    | (with_reducible refine pb_and ?_)
    | (with_reducible refine pb_or ?_)
    | (with_reducible refine pb_not ?_))
  | ((with_reducible show PPart _ _ _ _ _); first
    | (with_reducible refine pp_none ?_)
    | (with_reducible refine pp_some ?_))
  | ((with_reducible show O1 _ _ _ _ _); first
    | (with_reducible refine o_neg ?_))
  | ((with_reducible show OSl _ _ _ _ _ _ _); first
    | (with_reducible refine os_lst ?_)
    | (with_reducible refine os_tup ?_))
  | ((with_reducible refine ite_t ?k1 ?_); (case k1 => rfl))
  | ((with_reducible refine ite_f ?k1 ?_); (case k1 => rfl))
  | ((with_reducible refine use_FJ ?k1 ?_); (case k1 => first | rfl | assumption))
  | (with_reducible refine use_is_between ?_)
  | (with_reducible refine use_is_tuple_of ?_)
  | (refine Or.inl (Exists.intro _ (And.intro rfl (And.intro (le_line (Nat.le_of_ble_eq_true rfl)) ?_))))
  | (refine Or.inr (Exists.intro _ (And.intro rfl (And.intro (le_line (Nat.le_of_ble_eq_true rfl)) ?_))))
  | (with_reducible refine Exists.intro _ (And.intro rfl ?_))
  | ((with_reducible refine And.intro ?k1 ?_); (case k1 => exact le_line (Nat.le_of_ble_eq_true rfl))))
local macro_rules | `(tactic| walk_at "ds") => `(tactic| repeat walk_at "ds1")
variable {P : Program} {w : World} {K : PySem.W.Frag} {mg : Str → Option Value} {base : Heap}
theorem absD_map {ns : List Int} : (ns.map PyData.int).map absD = (ns.map fun i => if i < 0 then -i else i).map PyData.int := by rw [List.map_map, List.map_map]; rfl
theorem ok__law_pot {f : Addr} {fd : FuncData} (F : Fun K "_law_pot" "_law_pot" s__law_pot f fd)   (B : Blt mg)  : FnOk P w K mg base CX0 1 f fd ["_law_script"] (SpF K F__law_pot) := by
  refine F.ok sc__law_pot (fun vs H Q E h => ?_) (fun cdv A outer s H vs Q E hr h => ?_)
  · exact lenF h fun c g es P h => h.1
  obtain ⟨I, g, es, P, ok, r, hF, k⟩ := spFL h
  have nd := sc__law_pot.nd
  have hu := hr.units
  have hu1 := hu_of hr
  refine ⟨_, (pss_cons (ps_setLc (i := 1) (own := [("_law_cell", 2)]) (g := gName 2) (tt := tYes) rfl nd rfl rfl (sw_true rfl rfl rfl (by decide +kernel)) (pi_lstZ (K := (sC K).K) (pe_slice (sl_z (K := (sC K).K)) (pv 0) po_none (po_some pe_int))) (blkOk_by (N := ["_law_script", "_law_cells", "_law_cell"]) (sc := defScope s__law_pot) (by decide +kernel)) (fun _ _ _ _ _ => pg_name (i := 2) nd rfl (Or.inl rfl)) (fun _ _ _ _ _ => pts_nil) (fun _ _ _ _ _ => (pe_callB cr_abs (by rfl) B.abs_ (by decide +kernel) (pa_cons (pe_callTy cr_int (by rfl) B.int_ (by decide +kernel) (pa_cons (pv 2) pa_nil)) pa_nil))))
      (pss_one (L2.ps_ret (pe_lst (pa_cons (pv 1) (pa_cons pe_int (pa_cons pe_int (pa_cons (pe_op (op_zadd (K := (sC K).K)) pe_int (pe_callB (cr_len (K := (sC K).K)) (by rfl) B.len_ PySem.boot_len (pa_cons (pv 1) pa_nil))) (pa_cons pe_int pa_nil))))))))), body_run ok r k ?_⟩
  obtain ⟨ns, rfl, hl, hP⟩ := hF
  refine Dl.ps_seq (Dl.ps_set ?_)
  refine pv_lcL ?_
  walk_at "ds"
  have e : cutD (ns.map PyData.int) none (some 63) = ns.map PyData.int := by
    rw [show (63 : Int) = ((63 : Nat) : Int) from rfl, cut_take, List.take_of_length_le (by rw [List.length_map]; exact hl)]
  rw [e]
  refine ⟨by simp, by rw [List.length_map]; omega, absD, fun x hx => ?_, ?_⟩
  · obtain ⟨i, _, rfl⟩ := List.mem_map.mp hx
    walk_at "ds"
    exact ⟨rfl, rfl⟩
  · rw [absD_map]
    walk_at "ds"
    refine pv_lstM ?_
    walk_at "ds"
    refine fun q hq => hP q _ hq ⟨_, _, _, _, _, put_same, ⟨?_, Int.le_refl 0, Int.le_refl 0, by rw [List.length_map]; exact hl⟩⟩ Kept.put
    intro x hx
    obtain ⟨i, _, rfl⟩ := List.mem_map.mp hx
    split <;> omega
theorem ok__law_draw {f : Addr} {fd : FuncData} (F : Fun K "_law_draw" "_law_draw" s__law_draw f fd)   (B : Blt mg)  : FnOk P w K mg base CX0 1 f fd ["_law_pot_here", "_law_many"] (SpF K F__law_draw) := by
  refine F.ok sc__law_draw (fun vs H Q E h => ?_) (fun cdv A outer s H vs Q E hr h => ?_)
  · exact lenF h fun c g es P h => h.1
  obtain ⟨I, g, es, P, ok, r, hF, k⟩ := spFL h
  have nd := sc__law_draw.nd
  have hu := hr.units
  have hu1 := hu_of hr
  refine ⟨_, (pss_cons (L2.ps_if (PW.pt (pw_and (pt_cmpR (op_zeq (K := (sC K).K) hu) (pe_ix (ix_z (K := (sC K).K) (w := w)) (pv 0) pe_int (fun _ _ => rfl)) pe_int (nomark _)) (pw_and1 (pt_cmpR (op_zlt (K := (sC K).K) hu) (pe_ix (ix_z (K := (sC K).K) (w := w)) (pv 0) pe_int (fun _ _ => rfl)) (pe_callB (cr_len (K := (sC K).K)) (by rfl) B.len_ PySem.boot_len (pa_cons (pe_ix (ix_z (K := (sC K).K) (w := w)) (pv 0) pe_int (fun _ _ => rfl)) pa_nil)) (nomark _))))) (pss_cons (L2.ps_set (i := 2) nd rfl (by first | exact Or.inl rfl | exact Or.inr rfl | exact Or.inr (Or.inl rfl)) (pe_ix (ix_z (K := (sC K).K) (w := w)) (pe_ix (ix_z (K := (sC K).K) (w := w)) (pv 0) pe_int (fun _ _ => rfl)) (pe_ix (ix_z (K := (sC K).K) (w := w)) (pv 0) pe_int (fun _ _ => rfl)) (fun _ _ => rfl)))
      (pss_cons (ps_asg (pe_op (op_zadd (K := (sC K).K)) (pe_ix (ix_z (K := (sC K).K) (w := w)) (pv 0) pe_int (fun _ _ => rfl)) pe_int) (pg_sub (pv 0) pe_int set_list))
      (pss_cons (ps_asg (pe_op op_mod (pe_callTy cr_int (by rfl) B.int_ (by decide +kernel) (pa_cons (pe_op (op_zadd (K := (sC K).K)) (pe_op (op_zadd (K := (sC K).K)) (pe_op op_mul (pe_ix (ix_z (K := (sC K).K) (w := w)) (pv 0) pe_int (fun _ _ => rfl)) pe_int) (pv 2)) pe_int) pa_nil)) pe_int) (pg_sub (pv 0) pe_int set_list))
      (pss_one (L2.ps_if (pt_cmpR op_ge (pv 2) (pe_op op_pow pe_int pe_int) (nomark _)) (pss_one (ps_asg (pv 2) (pg_sub (pv 0) pe_int set_list))) pss_nil))))) pss_nil)
      (pss_cons (L2.ps_if (pt_cmpR op_gt (pe_ix (ix_z (K := (sC K).K) (w := w)) (pv 0) pe_int (fun _ _ => rfl)) pe_int (nomark _)) (pss_cons (L2.ps_set (i := 3) nd rfl (by first | exact Or.inl rfl | exact Or.inr rfl | exact Or.inr (Or.inl rfl)) (pe_op op_mod (pe_callTy cr_int (by rfl) B.int_ (by decide +kernel) (pa_cons (pe_ix (ix_z (K := (sC K).K) (w := w)) (pv 0) pe_int (fun _ _ => rfl)) pa_nil)) (pv 1)))
      (pss_cons (ps_asg (pe_op op_fdivW (pe_ix (ix_z (K := (sC K).K) (w := w)) (pv 0) pe_int (fun _ _ => rfl)) (pv 1)) (pg_sub (pv 0) pe_int set_list))
      (pss_one (L2.ps_ret (pv 3))))) pss_nil)
      (pss_cons (ps_asg (pe_op (op_zadd (K := (sC K).K)) (pe_ix (ix_z (K := (sC K).K) (w := w)) (pv 0) pe_int (fun _ _ => rfl)) pe_int) (pg_sub (pv 0) pe_int set_list))
      (pss_cons (L2.ps_set (i := 4) nd rfl (by first | exact Or.inl rfl | exact Or.inr rfl | exact Or.inr (Or.inl rfl)) (pe_op op_mod (pe_callTy cr_int (by rfl) B.int_ (by decide +kernel) (pa_cons (pe_op op_mul (pe_callTy cr_int (by rfl) B.int_ (by decide +kernel) (pa_cons (pe_op (op_zadd (K := (sC K).K)) (pe_ix (ix_z (K := (sC K).K) (w := w)) (pv 0) pe_int (fun _ _ => rfl)) (pe_op op_mul pe_int (pe_ix (ix_z (K := (sC K).K) (w := w)) (pv 0) pe_int (fun _ _ => rfl)))) pa_nil)) pe_int) pa_nil)) pe_int))
      (pss_cons (L2.ps_set (i := 4) nd rfl (by first | exact Or.inl rfl | exact Or.inr rfl | exact Or.inr (Or.inl rfl)) (pe_op op_mod (pe_callTy cr_int (by rfl) B.int_ (by decide +kernel) (pa_cons (pe_op op_mul (pv 4) (pe_op (op_zadd (K := (sC K).K)) (pe_op op_fdivW (pv 4) pe_int) pe_int)) pa_nil)) pe_int))
      (pss_cons (L2.ps_set (i := 4) nd rfl (by first | exact Or.inl rfl | exact Or.inr rfl | exact Or.inr (Or.inl rfl)) (pe_op op_mod (pe_callTy cr_int (by rfl) B.int_ (by decide +kernel) (pa_cons (pe_op op_mul (pv 4) (pe_op (op_zadd (K := (sC K).K)) (pe_op op_fdivW (pv 4) pe_int) pe_int)) pa_nil)) pe_int))
      (pss_one (L2.ps_ret (pe_op op_mod (pe_callTy cr_int (by rfl) B.int_ (by decide +kernel) (pa_cons (pe_op op_fdivW (pv 4) pe_int) pa_nil)) (pv 1)))))))))), body_run ok r k ?_⟩
  obtain ⟨p, n, rfl, h1, h2, ⟨ns, i, a, m, z, hg, hpot⟩, hP⟩ := hF
  have hn0 : 0 < n := by omega
  refine ps_cut (fun ρ1 g1 => PotIs g1 p ∧ Kept g g1 p ∧ ∃ e, ρ1 = [some (.r (.ref p)), some (.d (.int n)), e, none, none]) ?_ ?_
  · walk_at "ds"
    have same : PotIs g p ∧ Kept g g p ∧ ∃ e : Option EV, [some (.r (.ref p)), some (.d (.int n)), none, none, none] = [some (EV.r (.ref p)), some (.d (.int n)), e, none, none] := ⟨⟨ns, i, a, m, z, hg, hpot⟩, Kept.refl, _, rfl⟩
    refine ite_b (fun hb => ?_) (fun hb => ?_)
    · walk_at "ds"
      refine ite_b (fun hb2 => ?_) (fun hb2 => ?_)
      · have hi := of_decide_eq_true hb2
        obtain ⟨x, hx, hm⟩ := atI_some hpot.i0 hi
        obtain ⟨cell, hc, rfl⟩ := List.mem_map.mp hm
        have hc0 := hpot.ns0 cell hc
        walk_at "ds"
        refine o_ixL hx ?_
        walk_at "ds"
        (refine' ⟨_, _, _, 1, rfl, rfl, ?h, ?i, ?_⟩); (case h => first | assumption | exact put_same); (case i => rfl)
        walk_at "ds"
        (refine' ⟨_, _, _, 3, rfl, rfl, ?h, ?i, ?_⟩); (case h => first | assumption | exact put_same); (case i => rfl)
        walk_at "ds"
        refine o_iic ⟨by decide, by decide, by decide⟩ ?_
        walk_at "ds"
        refine ite_b (fun hb3 => ?_) (fun hb3 => ?_)
        · walk_at "ds"
          (refine' ⟨_, _, _, 2, rfl, rfl, ?h, ?i, ?_⟩); (case h => first | assumption | exact put_same); (case i => rfl)
          exact ⟨⟨_, _, _, _, _, put_same, ⟨hpot.ns0, by have := hpot.i0; omega, hc0, hpot.len⟩⟩, (Kept.put.trans Kept.put).trans Kept.put, _, rfl⟩
        · walk_at "ds"
          exact ⟨⟨_, _, _, _, _, put_same, ⟨hpot.ns0, by have := hpot.i0; omega, hpot.a0, hpot.len⟩⟩, Kept.put.trans Kept.put, _, rfl⟩
      · walk_at "ds"
        exact same
    · walk_at "ds"
      exact same
  · rintro ρ1 g1 ⟨⟨ns, i, a, m, z, hg, hpot⟩, hk, e, rfl⟩
    walk_at "ds"
    refine ite_b (fun hb => ?_) (fun hb => ?_)
    · walk_at "ds"
      refine o_iic ⟨hn0, Nat.lt_trans ((Nat.log2_lt (k := 40) (by omega)).mpr (by omega)) (by decide)⟩ ?_
      walk_at "ds"
      (refine' ⟨_, _, _, 2, rfl, rfl, ?h, ?i, ?_⟩); (case h => first | assumption | exact put_same); (case i => rfl)
      walk_at "ds"
      exact hP _ _ ⟨_, _, _, _, _, put_same, ⟨hpot.ns0, hpot.i0, Int.ediv_nonneg hpot.a0 (by omega), hpot.len⟩⟩ (hk.trans Kept.put) (Int.emod_nonneg _ (by omega)) (Int.emod_lt_of_pos _ hn0)
    · walk_at "ds"
      (refine' ⟨_, _, _, 4, rfl, rfl, ?h, ?i, ?_⟩); (case h => first | assumption | exact put_same); (case i => rfl)
      walk_at "ds"
      have b1 := Int.emod_nonneg ((m + 7919 * (z + 1)) * 48271) (b := 2147483647) (by decide)
      have b2 := Int.emod_lt_of_pos ((m + 7919 * (z + 1)) * 48271) (b := 2147483647) (by decide)
      generalize (m + 7919 * (z + 1)) * 48271 % 2147483647 = N at b1 b2 ⊢
      refine o_iic ⟨by decide, by decide +kernel⟩ ?_
      walk_at "ds"
      refine o_iic (.inl ⟨by omega, by omega⟩) ?_
      walk_at "ds"
      have b3 := Int.emod_nonneg (N * (N / 1009 + 69621)) (b := 2147483647) (by decide)
      have b4 := Int.emod_lt_of_pos (N * (N / 1009 + 69621)) (b := 2147483647) (by decide)
      generalize N * (N / 1009 + 69621) % 2147483647 = M at b3 b4 ⊢
      refine o_iic ⟨by decide, by decide +kernel⟩ ?_
      walk_at "ds"
      refine o_iic (.inl ⟨by omega, by omega⟩) ?_
      walk_at "ds"
      refine o_iic ⟨by decide, by decide +kernel⟩ ?_
      walk_at "ds"
      exact hP _ _ ⟨_, _, _, _, _, put_same, ⟨hpot.ns0, hpot.i0, hpot.a0, hpot.len⟩⟩ (hk.trans Kept.put) (Int.emod_nonneg _ (by omega)) (Int.emod_lt_of_pos _ hn0)
theorem ok__law_any {f : Addr} {fd : FuncData} (F : Fun K "_law_any" "_law_any" s__law_any f fd)   (B : Blt mg) {f__law_draw : Addr} {fd__law_draw : FuncData} {ps__law_draw : List Str} (D__law_draw : L2.Def P w K mg base 1 "_law_draw" f__law_draw fd__law_draw ps__law_draw (SpF K F__law_draw))  : FnOk P w K mg base CX0 2 f fd ["_law_pot_here", "_law_things"] (SpF K F__law_any) := by
  refine F.ok sc__law_any (fun vs H Q E h => ?_) (fun cdv A outer s H vs Q E hr h => ?_)
  · exact lenF h fun c g es P h => h.1
  obtain ⟨I, g, es, P, ok, r, hF, k⟩ := spFL h
  have nd := sc__law_any.nd
  have hu := hr.units
  have hu1 := hu_of hr
  refine ⟨_, (pss_one (L2.ps_ret (pe_ix (ix_z (K := (sC K).K) (w := w)) (pv 1) (pe_call D__law_draw.ok (hr.mono (by first | decide | omega)) rfl D__law_draw.at_ D__law_draw.kp D__law_draw.bd .nil pass0 (pa_cons (pv 0) (pa_cons (pe_callB (cr_len (K := (sC K).K)) (by rfl) B.len_ PySem.boot_len (pa_cons (pv 1) pa_nil)) pa_nil))) (fun _ _ => rfl)))), body_run ok r k ?_⟩
  obtain ⟨p, ds, rfl, hne, hl, hp, hP⟩ := hF
  have hl0 : 0 < ds.length := List.length_pos_iff.mpr hne
  walk_at "ds"
  refine use_FL rfl ⟨p, _, rfl, by omega, by omega, hp, fun g' r hp' hk h0 h1 => ?_⟩
  obtain ⟨x, hx, hm⟩ := atI_some h0 h1
  refine o_ixL hx ?_
  exact hP g' x hp' hk hm
theorem signs_are : ∀ x ∈ (Str.ofString " !\"#$&'()*+,-./0123456789:;<=>?@ABCDEFGHIJKLMNOPQRSTUVWXYZ[\\]^_`abcdefghijklmnopqrstuvwxyz{|}~").cps.toList, isSign x = true := by decide +kernel
theorem ok__law_signs {f : Addr} {fd : FuncData} (F : Fun K "_law_signs" "_law_signs" s__law_signs f fd)   (B : Blt mg) {f__law_draw : Addr} {fd__law_draw : FuncData} {ps__law_draw : List Str} (D__law_draw : L2.Def P w K mg base 1 "_law_draw" f__law_draw fd__law_draw ps__law_draw (SpF K F__law_draw))  : FnOk P w K mg base CX0 2 f fd ["_law_pot_here", "_law_many"] (SpF K F__law_signs) := by
  refine F.ok sc__law_signs (fun vs H Q E h => ?_) (fun cdv A outer s H vs Q E hr h => ?_)
  · exact lenF h fun c g es P h => h.1
  obtain ⟨I, g, es, P, ok, r, hF, k⟩ := spFL h
  have nd := sc__law_signs.nd
  have hu := hr.units
  have hu1 := hu_of hr
  refine ⟨_, (pss_cons (L2.ps_set (i := 2) nd rfl (by first | exact Or.inl rfl | exact Or.inr rfl | exact Or.inr (Or.inl rfl)) pe_str)
      (pss_one (L2.ps_ret (pe_joinZ (K := (sC K).K) pe_str (pe_lc (own := [("_law_k", 3)]) (g := gName 3) (tt := tYes) rfl nd (pi_range1 rfl B.range_ (pa_cons (pv 1) pa_nil)) (blkOk_by (N := ["_law_pot_here", "_law_many", "_law_signs_here", "_law_k"]) (sc := defScope s__law_signs) (by decide +kernel)) (fun _ _ _ _ _ => pg_name (i := 3) nd rfl (Or.inl rfl)) (fun _ _ _ _ _ => pts_nil) (fun _ _ _ _ _ => (pe_ix (ix_z (K := (sC K).K) (w := w)) (pv 2) (pe_call D__law_draw.ok (hr.mono (by first | decide | omega)) rfl D__law_draw.at_ D__law_draw.kp D__law_draw.bd .nil pass0 (pa_cons (pv 0) (pa_cons (pe_callB (cr_len (K := (sC K).K)) (by rfl) B.len_ PySem.boot_len (pa_cons (pv 2) pa_nil)) pa_nil))) (fun _ _ => rfl)))))))), body_run ok r k ?_⟩
  obtain ⟨p, n, rfl, h0, h1, hp, hP⟩ := hF
  refine Dl.ps_seq (Dl.ps_set ?_)
  walk_at "ds"
  refine pv_word (pit_rng1 ?_)
  walk_at "ds"
  refine ⟨by omega, by omega, by simp, by omega, fun x => isSign x = true, fun g2 => PotIs g2 p ∧ Kept g g2 p, ⟨hp, Kept.refl⟩, fun i g2 hi hJ => ?_, fun ns g2 hl hg hJ => ?_⟩
  · walk_at "ds"
    refine oc_lenS (le_line (Nat.le_of_ble_eq_true rfl)) ?_
    walk_at "ds"
    refine use_FL rfl ⟨p, _, rfl, by decide, by decide, hJ.1, fun g3 r hp3 hk3 h3 h4 => ?_⟩
    obtain ⟨x, hx, hm⟩ := atI_some (xs := (Str.ofString " !\"#$&'()*+,-./0123456789:;<=>?@ABCDEFGHIJKLMNOPQRSTUVWXYZ[\\]^_`abcdefghijklmnopqrstuvwxyz{|}~").cps.toList) h3 h4
    refine o_ixS (le_line (Nat.le_of_ble_eq_true rfl)) hx ?_
    exact ⟨x, rfl, signs_are x hm, hp3, hJ.2.trans hk3⟩
  · have q := text_ok (ns := ns) (by omega) hg
    exact hP g2 _ hJ.1 hJ.2 q.1 q.2
theorem ok__law_text {f : Addr} {fd : FuncData} (F : Fun K "_law_text" "_law_text" s__law_text f fd)   {f__law_signs : Addr} {fd__law_signs : FuncData} {ps__law_signs : List Str} (D__law_signs : L2.Def P w K mg base 2 "_law_signs" f__law_signs fd__law_signs ps__law_signs (SpF K F__law_signs)) {f__law_any : Addr} {fd__law_any : FuncData} {ps__law_any : List Str} (D__law_any : L2.Def P w K mg base 2 "_law_any" f__law_any fd__law_any ps__law_any (SpF K F__law_any))  : FnOk P w K mg base CX0 3 f fd ["_law_pot_here"] (SpF K F__law_text) := by
  refine F.ok sc__law_text (fun vs H Q E h => ?_) (fun cdv A outer s H vs Q E hr h => ?_)
  · exact lenF h fun c g es P h => h.1
  obtain ⟨I, g, es, P, ok, r, hF, k⟩ := spFL h
  have nd := sc__law_text.nd
  have hu := hr.units
  have hu1 := hu_of hr
  refine ⟨_, (pss_one (L2.ps_ret (pe_call D__law_signs.ok (hr.mono (by first | decide | omega)) rfl D__law_signs.at_ D__law_signs.kp D__law_signs.bd .nil pass0 (pa_cons (pv 0) (pa_cons (pe_call D__law_any.ok (hr.mono (by first | decide | omega)) rfl D__law_any.at_ D__law_any.kp D__law_any.bd .nil pass0 (pa_cons (pv 0) (pa_cons (pe_lst (pa_cons pe_int (pa_cons pe_int (pa_cons pe_int (pa_cons pe_int (pa_cons pe_int (pa_cons pe_int (pa_cons pe_int (pa_cons pe_int (pa_cons pe_int pa_nil)))))))))) pa_nil))) pa_nil))))), body_run ok r k ?_⟩
  obtain ⟨p, rfl, hp, hP⟩ := hF
  walk_at "ds"
  refine pv_lst2 ?_
  walk_at "ds"
  refine use_FL rfl ⟨p, _, rfl, by simp, by decide, hp, fun g1 d hp1 hk1 hd => ?_⟩
  obtain ⟨i, rfl, h0, h1⟩ : ∃ i, d = .int i ∧ 0 ≤ i ∧ i ≤ 96 := by
    simp only [List.mem_cons, List.not_mem_nil, or_false] at hd
    rcases hd with rfl | rfl | rfl | rfl | rfl | rfl | rfl | rfl | rfl <;> exact ⟨_, rfl, by decide, by decide⟩
  walk_at "ds"
  exact use_FL rfl ⟨p, _, rfl, h0, h1, hp1, fun g2 z hp2 hk2 ht hf => hP g2 z hp2 (hk1.trans hk2) ht hf⟩
theorem ok__law_name {f : Addr} {fd : FuncData} (F : Fun K "_law_name" "_law_name" s__law_name f fd)   (B : Blt mg) {f__law_any : Addr} {fd__law_any : FuncData} {ps__law_any : List Str} (D__law_any : L2.Def P w K mg base 2 "_law_any" f__law_any fd__law_any ps__law_any (SpF K F__law_any)) {f__law_draw : Addr} {fd__law_draw : FuncData} {ps__law_draw : List Str} (D__law_draw : L2.Def P w K mg base 1 "_law_draw" f__law_draw fd__law_draw ps__law_draw (SpF K F__law_draw))  : FnOk P w K mg base CX0 3 f fd ["_law_pot_here"] (SpF K F__law_name) := by
  refine F.ok sc__law_name (fun vs H Q E h => ?_) (fun cdv A outer s H vs Q E hr h => ?_)
  · exact lenF h fun c g es P h => h.1
  obtain ⟨I, g, es, P, ok, r, hF, k⟩ := spFL h
  have nd := sc__law_name.nd
  have hu := hr.units
  have hu1 := hu_of hr
  refine ⟨_, (pss_cons (L2.ps_set (i := 1) nd rfl (by first | exact Or.inl rfl | exact Or.inr rfl | exact Or.inr (Or.inl rfl)) (pe_call D__law_any.ok (hr.mono (by first | decide | omega)) rfl D__law_any.at_ D__law_any.kp D__law_any.bd .nil pass0 (pa_cons (pv 0) (pa_cons (pe_lst (pa_cons pe_int (pa_cons pe_int (pa_cons pe_int (pa_cons pe_int (pa_cons pe_int (pa_cons pe_int pa_nil))))))) pa_nil))))
      (pss_one (L2.ps_ret (pe_joinZ (K := (sC K).K) pe_str (pe_lc (own := [("_law_k", 2)]) (g := gName 2) (tt := tYes) rfl nd (pi_range1 rfl B.range_ (pa_cons (pv 1) pa_nil)) (blkOk_by (N := ["_law_pot_here", "_law_many", "_law_k"]) (sc := defScope s__law_name) (by decide +kernel)) (fun _ _ _ _ _ => pg_name (i := 2) nd rfl (Or.inl rfl)) (fun _ _ _ _ _ => pts_nil) (fun _ _ _ _ _ => (pe_ix (ix_z (K := (sC K).K) (w := w)) pe_str (pe_call D__law_draw.ok (hr.mono (by first | decide | omega)) rfl D__law_draw.at_ D__law_draw.kp D__law_draw.bd .nil pass0 (pa_cons (pv 0) (pa_cons pe_int pa_nil))) (fun _ _ => rfl)))))))), body_run ok r k ?_⟩
  obtain ⟨p, rfl, hp, hP⟩ := hF
  refine Dl.ps_seq (Dl.ps_set ?_)
  walk_at "ds"
  refine pv_lst2 ?_
  walk_at "ds"
  refine use_FL rfl ⟨p, _, rfl, by simp, by decide, hp, fun g1 d hp1 hk1 hd => ?_⟩
  obtain ⟨n, rfl, h0, h1⟩ : ∃ i, d = .int i ∧ 1 ≤ i ∧ i ≤ 8 := by
    simp only [List.mem_cons, List.not_mem_nil, or_false] at hd
    rcases hd with rfl | rfl | rfl | rfl | rfl | rfl <;> exact ⟨_, rfl, by decide, by decide⟩
  walk_at "ds"
  refine pv_word (pit_rng1 ?_)
  walk_at "ds"
  refine ⟨by omega, by omega, by simp, by omega, fun x => x ∈ lows.cps.toList, fun g2 => PotIs g2 p ∧ Kept g g2 p, ⟨hp1, hk1⟩, fun i g2 hi hJ => ?_, fun ns g2 hl hg hJ => ?_⟩
  · walk_at "ds"
    refine use_FL rfl ⟨p, _, rfl, by decide, by decide, hJ.1, fun g3 r hp3 hk3 h3 h4 => ?_⟩
    obtain ⟨x, hx, hm⟩ := atI_some (xs := lows.cps.toList) h3 h4
    refine o_ixS (le_line (Nat.le_of_ble_eq_true rfl)) hx ?_
    exact ⟨x, rfl, hm, hp3, hJ.2.trans hk3⟩
  · have q := name_ok (ns := ns) (by omega) (by omega) hg
    exact hP g2 _ hJ.1 hJ.2 q.1 q.2
theorem ok__law_edit {f : Addr} {fd : FuncData} (F : Fun K "_law_edit" "_law_edit" s__law_edit f fd)   {f__law_name : Addr} {fd__law_name : FuncData} {ps__law_name : List Str} (D__law_name : L2.Def P w K mg base 3 "_law_name" f__law_name fd__law_name ps__law_name (SpF K F__law_name)) {f__law_draw : Addr} {fd__law_draw : FuncData} {ps__law_draw : List Str} (D__law_draw : L2.Def P w K mg base 1 "_law_draw" f__law_draw fd__law_draw ps__law_draw (SpF K F__law_draw)) {f__law_any : Addr} {fd__law_any : FuncData} {ps__law_any : List Str} (D__law_any : L2.Def P w K mg base 2 "_law_any" f__law_any fd__law_any ps__law_any (SpF K F__law_any)) {f__law_text : Addr} {fd__law_text : FuncData} {ps__law_text : List Str} (D__law_text : L2.Def P w K mg base 3 "_law_text" f__law_text fd__law_text ps__law_text (SpF K F__law_text))  : FnOk P w K mg base CX0 4 f fd ["_law_pot_here"] (SpF K (FPd (Gd isEdit 1))) := by
  refine F.ok sc__law_edit (fun vs H Q E h => ?_) (fun cdv A outer s H vs Q E hr h => ?_)
  · exact lenF h fun c g es P h => h.1
  obtain ⟨I, g, es, P, ok, r, hF, k⟩ := spFL h
  have nd := sc__law_edit.nd
  have hu := hr.units
  have hu1 := hu_of hr
  refine ⟨_, (pss_cons (ps_par3 (i := 1) (j := 2) (l := 3) rfl nd rfl rfl rfl (by decide) (by decide) (by decide) rfl rfl rfl (pa_cons (pe_call D__law_name.ok (hr.mono (by first | decide | omega)) rfl D__law_name.at_ D__law_name.kp D__law_name.bd .nil pass0 (pa_cons (pv 0) pa_nil)) (pa_cons (pe_op (op_zadd (K := (sC K).K)) pe_int (pe_call D__law_draw.ok (hr.mono (by first | decide | omega)) rfl D__law_draw.at_ D__law_draw.kp D__law_draw.bd .nil pass0 (pa_cons (pv 0) (pa_cons pe_int pa_nil)))) (pa_cons (pe_op (op_zadd (K := (sC K).K)) pe_int (pe_call D__law_draw.ok (hr.mono (by first | decide | omega)) rfl D__law_draw.at_ D__law_draw.kp D__law_draw.bd .nil pass0 (pa_cons (pv 0) (pa_cons (pe_call D__law_any.ok (hr.mono (by first | decide | omega)) rfl D__law_any.at_ D__law_any.kp D__law_any.bd .nil pass0 (pa_cons (pv 0) (pa_cons (pe_lst (pa_cons pe_int (pa_cons (pe_op op_pow pe_int pe_int) pa_nil))) pa_nil))) pa_nil)))) pa_nil))) (by rfl))
      (pss_cons (L2.ps_set (i := 4) nd rfl (by first | exact Or.inl rfl | exact Or.inr rfl | exact Or.inr (Or.inl rfl)) (pe_lst (pa_cons (pe_tup (pa_cons pe_str (pa_cons (pe_call D__law_text.ok (hr.mono (by first | decide | omega)) rfl D__law_text.at_ D__law_text.kp D__law_text.bd .nil pass0 (pa_cons (pv 0) pa_nil)) pa_nil))) (pa_cons (pe_tup (pa_cons pe_str (pa_cons (pe_call D__law_draw.ok (hr.mono (by first | decide | omega)) rfl D__law_draw.at_ D__law_draw.kp D__law_draw.bd .nil pass0 (pa_cons (pv 0) (pa_cons pe_int pa_nil))) (pa_cons (pe_call D__law_draw.ok (hr.mono (by first | decide | omega)) rfl D__law_draw.at_ D__law_draw.kp D__law_draw.bd .nil pass0 (pa_cons (pv 0) (pa_cons pe_int pa_nil))) (pa_cons (pe_call D__law_text.ok (hr.mono (by first | decide | omega)) rfl D__law_text.at_ D__law_text.kp D__law_text.bd .nil pass0 (pa_cons (pv 0) pa_nil)) pa_nil))))) (pa_cons (pe_tup (pa_cons pe_str pa_nil)) pa_nil)))))
      (pss_one (L2.ps_ret (pe_call D__law_any.ok (hr.mono (by first | decide | omega)) rfl D__law_any.at_ D__law_any.kp D__law_any.bd .nil pass0 (pa_cons (pv 0) (pa_cons (pe_op (op_zadd (K := (sC K).K)) (pv 4) (pe_lst (pa_cons (pe_tup (pa_cons pe_str (pa_cons (pv 1) pa_nil))) (pa_cons (pe_tup (pa_cons pe_str (pa_cons (pv 2) (pa_cons (pv 3) pa_nil)))) (pa_cons (pe_tup (pa_cons pe_str (pa_cons (pv 2) (pa_cons (pv 3) pa_nil)))) pa_nil))))) pa_nil))))))), body_run ok r k ?_⟩
  obtain ⟨p, rfl, hp, hP⟩ := hF
  refine Dl.ps_seq (ps_par3' ?_)
  walk_at "ds"
  refine use_FL rfl ⟨p, rfl, hp, fun g1 nm hp1 hk1 hn hnf => ?_⟩
  walk_at "ds"
  refine use_FL rfl ⟨p, _, rfl, by decide, by decide, hp1, fun g2 i hp2 hk2 hi0 hi1 => ?_⟩
  walk_at "ds"
  refine pv_lst2 ?_
  walk_at "ds"
  refine o_iic ⟨by decide, by decide, by decide⟩ ?_
  have e11 : (10 : Int) ^ (11 : Int).toNat = 100000000000 := by decide
  rw [e11]
  walk_at "ds"
  refine use_FL rfl ⟨p, _, rfl, by simp, by simp, hp2, fun g3 m hp3 hk3 hm => ?_⟩
  obtain ⟨m, rfl, hm0, hm1⟩ : ∃ i, m = .int i ∧ 1 ≤ i ∧ i ≤ 100000000000 := by
    simp only [List.mem_cons, List.not_mem_nil, or_false] at hm
    rcases hm with rfl | rfl <;> exact ⟨_, rfl, by decide, by decide⟩
  walk_at "ds"
  refine use_FL rfl ⟨p, _, rfl, by omega, by omega, hp3, fun g4 j hp4 hk4 hj0 hj1 => ?_⟩
  walk_at "ds"
  refine ⟨_, _, _, rfl, ?_⟩
  walk_at "ds"
  refine pv_lst2 ?_
  walk_at "ds"
  refine use_FL rfl ⟨p, rfl, hp4, fun g5 t1 hp5 hk5 ht1 hf1 => ?_⟩
  walk_at "ds"
  refine use_FL rfl ⟨p, _, rfl, by decide, by decide, hp5, fun g6 x hp6 hk6 hx0 hx1 => ?_⟩
  walk_at "ds"
  refine use_FL rfl ⟨p, _, rfl, by decide, by decide, hp6, fun g7 y hp7 hk7 hy0 hy1 => ?_⟩
  walk_at "ds"
  refine use_FL rfl ⟨p, rfl, hp7, fun g8 t2 hp8 hk8 ht2 hf2 => ?_⟩
  walk_at "ds"
  refine pv_lst2 ?_
  walk_at "ds"
  refine o_catL (le_line (by simp)) ?_
  walk_at "ds"
  refine use_FL rfl ⟨p, _, rfl, by simp, by simp, hp8, fun g9 d hp9 hk9 hd => ?_⟩
  have hkk : Kept g g9 p := (((((((hk1.trans hk2).trans hk3).trans hk4).trans hk5).trans hk6).trans hk7).trans hk8).trans hk9
  have hc : isClient (.int (1 + i)) = true := by simp only [isClient, isBtw, Bool.and_eq_true, decide_eq_true_eq]; omega
  have hj : isNumber (.int (1 + j)) = true := by simp only [isNumber, decide_eq_true_eq]; omega
  have hx : isCount (.int x) = true := by simp only [isCount, decide_eq_true_eq]; omega
  have hy : isCount (.int y) = true := by simp only [isCount, decide_eq_true_eq]; omega
  have l1 := len_text ht1
  have l2 := len_text ht2
  have l3 := len_name hn
  simp only [List.cons_append, List.nil_append, List.mem_cons, List.not_mem_nil, or_false] at hd
  rcases hd with rfl | rfl | rfl | rfl | rfl | rfl
  · exact hP g9 _ hp9 hkk ⟨edit_put ht1, gd_word (by decide +kernel) (by simp) (by simp [gd_str]; omega), edit_depth (edit_put ht1)⟩
  · exact hP g9 _ hp9 hkk ⟨edit_splice hx hy ht2, gd_word (by decide +kernel) (by simp) (by simp [gd_str, gd_int, B5]; omega), edit_depth (edit_splice hx hy ht2)⟩
  · exact hP g9 _ hp9 hkk ⟨edit_remove, gd_word (by decide +kernel) (by simp) (by simp), edit_depth edit_remove⟩
  · exact hP g9 _ hp9 hkk ⟨edit_take hn, gd_word (by decide +kernel) (by simp) (by simp [gd_str]; omega), edit_depth (edit_take hn)⟩
  · exact hP g9 _ hp9 hkk ⟨edit_adopt hc hj, gd_word (by decide +kernel) (by simp) (by simp [gd_int, B5]; omega), edit_depth (edit_adopt hc hj)⟩
  · exact hP g9 _ hp9 hkk ⟨edit_drop hc hj, gd_word (by decide +kernel) (by simp) (by simp [gd_int, B5]; omega), edit_depth (edit_drop hc hj)⟩
theorem ok__law_base {f : Addr} {fd : FuncData} (F : Fun K "_law_base" "_law_base" s__law_base f fd)   {f__law_draw : Addr} {fd__law_draw : FuncData} {ps__law_draw : List Str} (D__law_draw : L2.Def P w K mg base 1 "_law_draw" f__law_draw fd__law_draw ps__law_draw (SpF K F__law_draw)) {f__law_any : Addr} {fd__law_any : FuncData} {ps__law_any : List Str} (D__law_any : L2.Def P w K mg base 2 "_law_any" f__law_any fd__law_any ps__law_any (SpF K F__law_any))  : FnOk P w K mg base CX0 3 f fd ["_law_pot_here"] (SpF K (FPd (Gd isBase 1))) := by
  refine F.ok sc__law_base (fun vs H Q E h => ?_) (fun cdv A outer s H vs Q E hr h => ?_)
  · exact lenF h fun c g es P h => h.1
  obtain ⟨I, g, es, P, ok, r, hF, k⟩ := spFL h
  have nd := sc__law_base.nd
  have hu := hr.units
  have hu1 := hu_of hr
  refine ⟨_, (pss_cons (L2.ps_set (i := 1) nd rfl (by first | exact Or.inl rfl | exact Or.inr rfl | exact Or.inr (Or.inl rfl)) (pe_tup (pa_cons (pe_op (op_zadd (K := (sC K).K)) pe_int (pe_call D__law_draw.ok (hr.mono (by first | decide | omega)) rfl D__law_draw.at_ D__law_draw.kp D__law_draw.bd .nil pass0 (pa_cons (pv 0) (pa_cons (pe_call D__law_any.ok (hr.mono (by first | decide | omega)) rfl D__law_any.at_ D__law_any.kp D__law_any.bd .nil pass0 (pa_cons (pv 0) (pa_cons (pe_lst (pa_cons pe_int (pa_cons (pe_op op_pow pe_int pe_int) pa_nil))) pa_nil))) pa_nil)))) (pa_cons (pe_op (op_zadd (K := (sC K).K)) pe_int (pe_call D__law_draw.ok (hr.mono (by first | decide | omega)) rfl D__law_draw.at_ D__law_draw.kp D__law_draw.bd .nil pass0 (pa_cons (pv 0) (pa_cons pe_int pa_nil)))) (pa_cons (pe_op (op_zadd (K := (sC K).K)) pe_int (pe_call D__law_draw.ok (hr.mono (by first | decide | omega)) rfl D__law_draw.at_ D__law_draw.kp D__law_draw.bd .nil pass0 (pa_cons (pv 0) (pa_cons pe_int pa_nil)))) pa_nil)))))
      (pss_one (L2.ps_ret (pe_call D__law_any.ok (hr.mono (by first | decide | omega)) rfl D__law_any.at_ D__law_any.kp D__law_any.bd .nil pass0 (pa_cons (pv 0) (pa_cons (pe_lst (pa_cons pe_non (pa_cons pe_non (pa_cons (pe_tup (pa_cons pe_int (pa_cons pe_int (pa_cons pe_int pa_nil)))) (pa_cons (pv 1) (pa_cons (pv 1) pa_nil)))))) pa_nil)))))), body_run ok r k ?_⟩
  obtain ⟨p, rfl, hp, hP⟩ := hF
  walk_at "ds"
  refine pv_lst2 ?_
  walk_at "ds"
  refine o_iic ⟨by decide, by decide, by decide⟩ ?_
  have e11 : (10 : Int) ^ (11 : Int).toNat = 100000000000 := by decide
  rw [e11]
  walk_at "ds"
  refine use_FL rfl ⟨p, _, rfl, by simp, by simp, hp, fun g3 m hp3 hk3 hm => ?_⟩
  obtain ⟨m, rfl, hm0, hm1⟩ : ∃ i, m = .int i ∧ 1 ≤ i ∧ i ≤ 100000000000 := by
    simp only [List.mem_cons, List.not_mem_nil, or_false] at hm
    rcases hm with rfl | rfl <;> exact ⟨_, rfl, by decide, by decide⟩
  walk_at "ds"
  refine use_FL rfl ⟨p, _, rfl, by omega, by omega, hp3, fun g4 j hp4 hk4 hj0 hj1 => ?_⟩
  walk_at "ds"
  refine use_FL rfl ⟨p, _, rfl, by decide, by decide, hp4, fun g5 x hp5 hk5 hx0 hx1 => ?_⟩
  walk_at "ds"
  refine use_FL rfl ⟨p, _, rfl, by decide, by decide, hp5, fun g6 y hp6 hk6 hy0 hy1 => ?_⟩
  walk_at "ds"
  refine pv_lst2 ?_
  walk_at "ds"
  refine use_FL rfl ⟨p, _, rfl, by simp, by simp, hp6, fun g7 d hp7 hk7 hd => ?_⟩
  have hkk : Kept g g7 p := (((hk3.trans hk4).trans hk5).trans hk6).trans hk7
  have hs : isBase (.tuple [.int (1 + j), .int (1 + x), .int (1 + y)]) = true := by
    simp only [isBase, isStamp, Bool.and_eq_true, Bool.or_eq_true, decide_eq_true_eq]; omega
  have hs2 : gd 100 B5 (.tuple [.int (1 + j), .int (1 + x), .int (1 + y)]) = true := by simp [gd_tup, gd_int, B5]; omega
  simp only [List.mem_cons, List.not_mem_nil, or_false] at hd
  rcases hd with rfl | rfl | rfl | rfl | rfl
  · exact hP g7 _ hp7 hkk ⟨rfl, by simp [gd], by simp [PyData.depth]⟩
  · exact hP g7 _ hp7 hkk ⟨rfl, by simp [gd], by simp [PyData.depth]⟩
  · exact hP g7 _ hp7 hkk ⟨by decide +kernel, by decide +kernel, by simp [PyData.depth, PyData.depthAll]⟩
  · exact hP g7 _ hp7 hkk ⟨hs, hs2, base_depth hs⟩
  · exact hP g7 _ hp7 hkk ⟨hs, hs2, base_depth hs⟩
theorem ok__law_sheet {f : Addr} {fd : FuncData} (F : Fun K "_law_sheet" "_law_sheet" s__law_sheet f fd)   (B : Blt mg) {f__law_any : Addr} {fd__law_any : FuncData} {ps__law_any : List Str} (D__law_any : L2.Def P w K mg base 2 "_law_any" f__law_any fd__law_any ps__law_any (SpF K F__law_any)) {f__law_draw : Addr} {fd__law_draw : FuncData} {ps__law_draw : List Str} (D__law_draw : L2.Def P w K mg base 1 "_law_draw" f__law_draw fd__law_draw ps__law_draw (SpF K F__law_draw)) {f__law_name : Addr} {fd__law_name : FuncData} {ps__law_name : List Str} (D__law_name : L2.Def P w K mg base 3 "_law_name" f__law_name fd__law_name ps__law_name (SpF K F__law_name)) {f__law_base : Addr} {fd__law_base : FuncData} {ps__law_base : List Str} (D__law_base : L2.Def P w K mg base 3 "_law_base" f__law_base fd__law_base ps__law_base (SpF K (FPd (Gd isBase 1)))) {f__law_edit : Addr} {fd__law_edit : FuncData} {ps__law_edit : List Str} (D__law_edit : L2.Def P w K mg base 4 "_law_edit" f__law_edit fd__law_edit ps__law_edit (SpF K (FPd (Gd isEdit 1))))  : FnOk P w K mg base CX0 5 f fd ["_law_pot_here"] (SpF K (FPd GdS)) := by
  refine F.ok sc__law_sheet (fun vs H Q E h => ?_) (fun cdv A outer s H vs Q E hr h => ?_)
  · exact lenF h fun c g es P h => h.1
  obtain ⟨I, g, es, P, ok, r, hF, k⟩ := spFL h
  have nd := sc__law_sheet.nd
  have hu := hr.units
  have hu1 := hu_of hr
  refine ⟨_, (pss_cons (L2.ps_set (i := 1) nd rfl (by first | exact Or.inl rfl | exact Or.inr rfl | exact Or.inr (Or.inl rfl)) (pe_call D__law_any.ok (hr.mono (by first | decide | omega)) rfl D__law_any.at_ D__law_any.kp D__law_any.bd .nil pass0 (pa_cons (pv 0) (pa_cons (pe_lst (pa_cons pe_int (pa_cons pe_int (pa_cons pe_int (pa_cons (pe_call D__law_draw.ok (hr.mono (by first | decide | omega)) rfl D__law_draw.at_ D__law_draw.kp D__law_draw.bd .nil pass0 (pa_cons (pv 0) (pa_cons pe_int pa_nil))) (pa_cons (pe_op op_pow pe_int pe_int) pa_nil)))))) pa_nil))))
      (pss_cons (ps_setLc (i := 2) (own := [("_law_k", 3)]) (g := gName 3) (tt := tYes) rfl nd rfl rfl (sw_true rfl rfl rfl (by decide +kernel)) (pi_range1 rfl B.range_ (pa_cons (pe_call D__law_any.ok (hr.mono (by first | decide | omega)) rfl D__law_any.at_ D__law_any.kp D__law_any.bd .nil pass0 (pa_cons (pv 0) (pa_cons (pe_lst (pa_cons pe_int (pa_cons pe_int (pa_cons pe_int (pa_cons pe_int pa_nil))))) pa_nil))) pa_nil)) (blkOk_by (N := ["_law_pot_here", "_law_number", "_law_pending", "_law_k"]) (sc := defScope s__law_sheet) (by decide +kernel)) (fun _ _ _ _ _ => pg_name (i := 3) nd rfl (Or.inl rfl)) (fun _ _ _ _ _ => pts_nil) (fun _ _ _ _ _ => (pe_tup (pa_cons (pe_op (op_zadd (K := (sC K).K)) (pe_op (op_zadd (K := (sC K).K)) (pv 1) (pv 3)) pe_int) (pa_cons (pe_call D__law_name.ok (hr.mono (by first | decide | omega)) rfl D__law_name.at_ D__law_name.kp D__law_name.bd .nil pass0 (pa_cons (pv 0) pa_nil)) (pa_cons (pe_call D__law_base.ok (hr.mono (by first | decide | omega)) rfl D__law_base.at_ D__law_base.kp D__law_base.bd .nil pass0 (pa_cons (pv 0) pa_nil)) (pa_cons (pe_call D__law_edit.ok (hr.mono (by first | decide | omega)) rfl D__law_edit.at_ D__law_edit.kp D__law_edit.bd .nil pass0 (pa_cons (pv 0) pa_nil)) pa_nil)))))))
      (pss_one (L2.ps_ret (pe_tup (pa_cons (pe_call D__law_any.ok (hr.mono (by first | decide | omega)) rfl D__law_any.at_ D__law_any.kp D__law_any.bd .nil pass0 (pa_cons (pv 0) (pa_cons (pe_lst (pa_cons pe_int (pa_cons pe_int (pa_cons pe_int (pa_cons (pe_op op_pow pe_int pe_int) pa_nil))))) pa_nil))) (pa_cons (pe_op (op_zadd (K := (sC K).K)) (pv 1) (pe_callB (cr_len (K := (sC K).K)) (by rfl) B.len_ PySem.boot_len (pa_cons (pv 2) pa_nil))) (pa_cons (pe_callTy (cr_tuple (K := (sC K).K)) (by rfl) B.tuple_ PyProof.Rows.boot_tuple (pa_cons (pv 2) pa_nil)) pa_nil)))))))), body_run ok r k ?_⟩
  obtain ⟨p, rfl, hp, hP⟩ := hF
  refine Dl.ps_seq (Dl.ps_set ?_)
  walk_at "ds"
  refine pv_lst2 ?_
  walk_at "ds"
  refine use_FL rfl ⟨p, _, rfl, by decide, by decide, hp, fun g1 i hp1 hk1 hi0 hi1 => ?_⟩
  walk_at "ds"
  refine o_iic ⟨by decide, by decide, by decide⟩ ?_
  have e11 : (10 : Int) ^ (11 : Int).toNat = 100000000000 := by decide
  rw [e11]
  walk_at "ds"
  refine use_FL rfl ⟨p, _, rfl, by simp, by simp, hp1, fun g2 m hp2 hk2 hm => ?_⟩
  obtain ⟨N, rfl, hN0, hN1⟩ : ∃ N, m = .int N ∧ 0 ≤ N ∧ N ≤ 100000000000 := by
    simp only [List.mem_cons, List.not_mem_nil, or_false] at hm
    rcases hm with rfl | rfl | rfl | rfl | rfl <;> exact ⟨_, rfl, by omega, by omega⟩
  refine Dl.ps_seq (Dl.ps_set (pv_lcG (pit_rng1 ?_)))
  walk_at "ds"
  refine pv_lst2 ?_
  walk_at "ds"
  refine use_FL rfl ⟨p, _, rfl, by simp, by simp, hp2, fun g3 m hp3 hk3 hm => ?_⟩
  obtain ⟨M, rfl, hM0, hM1⟩ : ∃ M, m = .int M ∧ 0 ≤ M ∧ M ≤ 5 := by
    simp only [List.mem_cons, List.not_mem_nil, or_false] at hm
    rcases hm with rfl | rfl | rfl | rfl <;> exact ⟨_, rfl, by omega, by omega⟩
  walk_at "ds"
  refine ⟨by omega, by omega, by simp, lt_line (by omega), fun k d => rowOk (N + 1 + k) d = true ∧ gd 100 B5 d = true, fun g4 => PotIs g4 p ∧ Kept g g4 p, ⟨hp3, (hk1.trans hk2).trans hk3⟩, fun k g4 hk hJ => ?_, fun ds g4 hdl hG hJ => ?_⟩
  · walk_at "ds"
    refine use_FL rfl ⟨p, rfl, hJ.1, fun g5 nm hp5 hk5 hn hnf => ?_⟩
    walk_at "ds"
    refine use_FL rfl ⟨p, rfl, hp5, fun g6 bs hp6 hk6 hbs => ?_⟩
    walk_at "ds"
    refine use_FL rfl ⟨p, rfl, hp6, fun g7 ed hp7 hk7 hed => ?_⟩
    walk_at "ds"
    refine ⟨⟨?_, ?_⟩, hp7, ((hJ.2.trans hk5).trans hk6).trans hk7⟩
    · have e1 : N + (0 + (k : Int)) + 1 = N + 1 + k := by omega
      rw [e1]
      simp only [rowOk, hn, hbs.1, hed.1, decide_true, Bool.and_true, Bool.true_and]
      exact decide_eq_true (by omega)
    · rw [gd_tup]
      refine ⟨by simp, fun x mx => ?_⟩
      simp only [List.mem_cons, List.not_mem_nil, or_false] at mx
      rcases mx with rfl | rfl | rfl | rfl
      · rw [gd_int]; simp only [B5]; omega
      · rw [gd_str]; have := len_name hn; omega
      · exact hbs.2.1
      · exact hed.2.1
  · have hl5 : ds.length ≤ 5 := by omega
    walk_at "ds"
    refine pv_lst2 ?_
    walk_at "ds"
    refine o_iic ⟨by decide, by decide, by decide⟩ ?_
    rw [e11]
    walk_at "ds"
    refine use_FL rfl ⟨p, _, rfl, by simp, by simp, hJ.1, fun g5 m hp5 hk5 hm => ?_⟩
    obtain ⟨b, rfl, hb0, hb1⟩ : ∃ b, m = .int b ∧ 0 ≤ b ∧ b ≤ 100000000000 := by
      simp only [List.mem_cons, List.not_mem_nil, or_false] at hm
      rcases hm with rfl | rfl | rfl | rfl <;> exact ⟨_, rfl, by omega, by omega⟩
    walk_at "ds"
    refine oc_tupleL ?_
    walk_at "ds"
    have hgp : gd 100 B5 (.tuple ds) = true := gd_tup.mpr ⟨by omega, fun x mx => by
      obtain ⟨k, hk, rfl⟩ := List.getElem_of_mem mx
      exact (hG k _ (List.getElem?_eq_getElem hk)).2⟩
    have hs : isSheet (.tuple [.int b, .int (N + ds.length), .tuple ds]) = true := by
      refine sheet_of_rows hb0 (by omega) (fit_of_sm (by decide) (by decide) (sm_of_gd (Nat.le_refl _) (Int.le_refl _) hgp)) ?_
      have e1 : N + (ds.length : Int) - ds.length + 1 = N + 1 := by omega
      rw [e1]
      exact rowsOkAt_of fun k d e => (hG k d e).1
    refine hP g5 _ hp5 (hJ.2.trans hk5) ⟨hs, ?_, (sheet_noD hs).2⟩
    rw [gd_tup]
    refine ⟨by simp, fun x mx => ?_⟩
    simp only [List.mem_cons, List.not_mem_nil, or_false] at mx
    rcases mx with rfl | rfl | rfl
    · rw [gd_int]; simp only [B5]; omega
    · rw [gd_int]; simp only [B5]; omega
    · exact hgp
theorem ok__law_note {f : Addr} {fd : FuncData} (F : Fun K "_law_note" "_law_note" s__law_note f fd)   (B : Blt mg) {f__law_any : Addr} {fd__law_any : FuncData} {ps__law_any : List Str} (D__law_any : L2.Def P w K mg base 2 "_law_any" f__law_any fd__law_any ps__law_any (SpF K F__law_any)) {f__law_name : Addr} {fd__law_name : FuncData} {ps__law_name : List Str} (D__law_name : L2.Def P w K mg base 3 "_law_name" f__law_name fd__law_name ps__law_name (SpF K F__law_name)) {f__law_base : Addr} {fd__law_base : FuncData} {ps__law_base : List Str} (D__law_base : L2.Def P w K mg base 3 "_law_base" f__law_base fd__law_base ps__law_base (SpF K (FPd (Gd isBase 1)))) {f__law_edit : Addr} {fd__law_edit : FuncData} {ps__law_edit : List Str} (D__law_edit : L2.Def P w K mg base 4 "_law_edit" f__law_edit fd__law_edit ps__law_edit (SpF K (FPd (Gd isEdit 1)))) {f__law_sheet : Addr} {fd__law_sheet : FuncData} {ps__law_sheet : List Str} (D__law_sheet : L2.Def P w K mg base 5 "_law_sheet" f__law_sheet fd__law_sheet ps__law_sheet (SpF K (FPd GdS)))  : FnOk P w K mg base CX0 6 f fd ["_law_pot_here", "_law_sheet_here"] (SpF K F_note) := by
  refine F.ok sc__law_note (fun vs H Q E h => ?_) (fun cdv A outer s H vs Q E hr h => ?_)
  · exact lenF h fun c g es P h => h.1
  obtain ⟨I, g, es, P, ok, r, hF, k⟩ := spFL h
  have nd := sc__law_note.nd
  have hu := hr.units
  have hu1 := hu_of hr
  refine ⟨_, (pss_cons (L2.ps_set (i := 2) nd rfl (by first | exact Or.inl rfl | exact Or.inr rfl | exact Or.inr (Or.inl rfl)) (pe_callB (cr_max2' rfl) (by rfl) B.max_ (by decide +kernel) (pa_cons pe_int (pa_cons (pe_op (op_zadd (K := (sC K).K)) (pe_op op_sub (pe_ix (ix_z (K := (sC K).K) (w := w)) (pv 1) pe_int (fun _ _ => rfl)) (pe_callB (cr_len (K := (sC K).K)) (by rfl) B.len_ PySem.boot_len (pa_cons (pe_ix (ix_z (K := (sC K).K) (w := w)) (pv 1) pe_int (fun _ _ => rfl)) pa_nil))) (pe_call D__law_any.ok (hr.mono (by first | decide | omega)) rfl D__law_any.at_ D__law_any.kp D__law_any.bd .nil pass0 (pa_cons (pv 0) (pa_cons (pe_lst (pa_cons pe_int (pa_cons pe_int (pa_cons pe_int (pa_cons pe_int (pa_cons pe_int pa_nil)))))) pa_nil)))) pa_nil))))
      (pss_cons (L2.ps_set (i := 3) nd rfl (by first | exact Or.inl rfl | exact Or.inr rfl | exact Or.inr (Or.inl rfl)) (pe_lst (pa_cons (pe_tup (pa_cons pe_str pa_nil)) (pa_cons (pe_tup (pa_cons pe_str (pa_cons (pe_call D__law_name.ok (hr.mono (by first | decide | omega)) rfl D__law_name.at_ D__law_name.kp D__law_name.bd .nil pass0 (pa_cons (pv 0) pa_nil)) (pa_cons (pe_call D__law_base.ok (hr.mono (by first | decide | omega)) rfl D__law_base.at_ D__law_base.kp D__law_base.bd .nil pass0 (pa_cons (pv 0) pa_nil)) (pa_cons (pe_call D__law_edit.ok (hr.mono (by first | decide | omega)) rfl D__law_edit.at_ D__law_edit.kp D__law_edit.bd .nil pass0 (pa_cons (pv 0) pa_nil)) pa_nil))))) (pa_cons (pe_tup (pa_cons pe_str (pa_cons (pv 2) pa_nil))) (pa_cons (pe_tup (pa_cons pe_str (pa_cons (pv 2) pa_nil))) pa_nil))))))
      (pss_one (L2.ps_ret (pe_call D__law_any.ok (hr.mono (by first | decide | omega)) rfl D__law_any.at_ D__law_any.kp D__law_any.bd .nil pass0 (pa_cons (pv 0) (pa_cons (pe_op (op_zadd (K := (sC K).K)) (pv 3) (pe_lst (pa_cons (pe_tup (pa_cons pe_str (pa_cons (pe_call D__law_sheet.ok (hr.mono (by first | decide | omega)) rfl D__law_sheet.at_ D__law_sheet.kp D__law_sheet.bd .nil pass0 (pa_cons (pv 0) pa_nil)) pa_nil))) pa_nil))) pa_nil))))))), body_run ok r k ?_⟩
  obtain ⟨p, s, rfl, hp, hs, hP⟩ := hF
  obtain ⟨b, N, q, rfl, hb0, hN0, hr⟩ := sheet_shape hs.1
  have hg := (gd_tup.mp hs.2.1).2
  have hgN := gd_int.mp (hg (.int N) (by simp))
  have hgq := (gd_tup.mp (hg (.tuple q) (by simp))).1
  simp only [B5] at hgN
  refine Dl.ps_seq (Dl.ps_set ?_)
  walk_at "ds"
  refine pv_lst2 ?_
  walk_at "ds"
  refine use_FL rfl ⟨p, _, rfl, by simp, by simp, hp, fun g1 m hp1 hk1 hm => ?_⟩
  obtain ⟨z, rfl, hz0, hz1⟩ : ∃ i, m = .int i ∧ 0 ≤ i ∧ i ≤ 2 := by
    simp only [List.mem_cons, List.not_mem_nil, or_false] at hm
    rcases hm with rfl | rfl | rfl | rfl | rfl <;> exact ⟨_, rfl, by omega, by omega⟩
  walk_at "ds"
  refine oc_max2 ?_
  obtain ⟨M, eM, hM0, hM1⟩ : ∃ M : Int, (if N - (q.length : Int) + z > 1 then N - (q.length : Int) + z else 1) = M ∧ 1 ≤ M ∧ M ≤ 1000000000000 := ⟨_, rfl, by split <;> omega, by split <;> omega⟩
  rw [eM]
  refine Dl.ps_seq (Dl.ps_set ?_)
  walk_at "ds"
  refine pv_lst2 ?_
  walk_at "ds"
  refine use_FL rfl ⟨p, rfl, hp1, fun g2 nm hp2 hk2 hn hnf => ?_⟩
  walk_at "ds"
  refine use_FL rfl ⟨p, rfl, hp2, fun g3 bs hp3 hk3 hbs => ?_⟩
  walk_at "ds"
  refine use_FL rfl ⟨p, rfl, hp3, fun g4 ed hp4 hk4 hed => ?_⟩
  walk_at "ds"
  refine pv_lst2 ?_
  walk_at "ds"
  refine use_FL rfl ⟨p, rfl, hp4, fun g5 s2 hp5 hk5 hs2 => ?_⟩
  walk_at "ds"
  refine o_catL (le_line (by simp)) ?_
  walk_at "ds"
  refine use_FL rfl ⟨p, _, rfl, by simp, by simp, hp5, fun g6 d hp6 hk6 hd => ?_⟩
  have hkk : Kept g g6 p := ((((hk1.trans hk2).trans hk3).trans hk4).trans hk5).trans hk6
  have hset : GdN (.tuple [.str "settled", .int M]) := ⟨note_settled (decide_eq_true hM0), gd_word (by decide +kernel) (by simp) (by simp [gd_int, B12]; omega), by simp [PyData.depth, PyData.depthAll]⟩
  simp only [List.cons_append, List.nil_append, List.mem_cons, List.not_mem_nil, or_false] at hd
  rcases hd with rfl | rfl | rfl | rfl | rfl
  · exact hP g6 _ hp6 hkk ⟨note_boot, gd_word (by decide +kernel) (by simp) (by simp), by simp [PyData.depth, PyData.depthAll]⟩
  · refine hP g6 _ hp6 hkk ⟨note_write hn hbs.1 hed.1, gd_word (by decide +kernel) (by simp) (fun x mx => ?_), ?_⟩
    · simp only [List.mem_cons, List.not_mem_nil, or_false] at mx
      rcases mx with rfl | rfl | rfl
      · rw [gd_str]; have := len_name hn; omega
      · exact gd_mono (by decide) hbs.2.1
      · exact gd_mono (by decide) hed.2.1
    · have : PyData.depthAll [.str "write", .str nm, bs, ed] ≤ 1 := depthAll_le fun x m => by
        simp only [List.mem_cons, List.not_mem_nil, or_false] at m
        rcases m with rfl | rfl | rfl | rfl
        · simp [PyData.depth]
        · simp [PyData.depth]
        · exact hbs.2.2
        · exact hed.2.2
      have this' : (PyData.tuple [.str "write", .str nm, bs, ed]).depth ≤ 2 := by simp only [PyData.depth] at this ⊢; omega
      exact Nat.le_trans this' (by decide)
  · exact hP g6 _ hp6 hkk hset
  · exact hP g6 _ hp6 hkk hset
  · refine hP g6 _ hp6 hkk ⟨note_stand hs2.1, gd_word (by decide +kernel) (by simp) (by simpa using gd_mono (by decide) hs2.2.1), ?_⟩
    have := hs2.2.2
    simp only [PyData.depth, PyData.depthAll]
    omega
theorem ok__law_deep {f : Addr} {fd : FuncData} (F : Fun K "_law_deep" "_law_deep" s__law_deep f fd)   (B : Blt mg) {f__law_any : Addr} {fd__law_any : FuncData} {ps__law_any : List Str} (D__law_any : L2.Def P w K mg base 2 "_law_any" f__law_any fd__law_any ps__law_any (SpF K F__law_any)) {f__law_draw : Addr} {fd__law_draw : FuncData} {ps__law_draw : List Str} (D__law_draw : L2.Def P w K mg base 1 "_law_draw" f__law_draw fd__law_draw ps__law_draw (SpF K F__law_draw))  : FnOk P w K mg base CX0 3 f fd ["_law_pot_here"] (SpF K (FPd (fun d => sm 100 B12 d = true))) := by
  refine F.ok sc__law_deep (fun vs H Q E h => ?_) (fun cdv A outer s H vs Q E hr h => ?_)
  · exact lenF h fun c g es P h => h.1
  obtain ⟨I, g, es, P, ok, r, hF, k⟩ := spFL h
  have nd := sc__law_deep.nd
  have hu := hr.units
  have hu1 := hu_of hr
  refine ⟨_, (pss_cons (L2.ps_set (i := 1) nd rfl (by first | exact Or.inl rfl | exact Or.inr rfl | exact Or.inr (Or.inl rfl)) (pe_call D__law_any.ok (hr.mono (by first | decide | omega)) rfl D__law_any.at_ D__law_any.kp D__law_any.bd .nil pass0 (pa_cons (pv 0) (pa_cons (pe_lst (pa_cons pe_non (pa_cons (pe_tup pa_nil) (pa_cons pe_int (pa_cons pe_str pa_nil))))) pa_nil))))
      (pss_cons (L2.ps_for PassesOwn.never rfl (pi_range1 rfl B.range_ (pa_cons (pe_op (op_zadd (K := (sC K).K)) pe_int (pe_call D__law_draw.ok (hr.mono (by first | decide | omega)) rfl D__law_draw.at_ D__law_draw.kp D__law_draw.bd .nil pass0 (pa_cons (pv 0) (pa_cons pe_int pa_nil)))) pa_nil)) (pg_name (i := 2) nd rfl (by first | exact Or.inl rfl | exact Or.inr rfl)) (pss_one (L2.ps_set (i := 1) nd rfl (by first | exact Or.inl rfl | exact Or.inr rfl | exact Or.inr (Or.inl rfl)) (pe_call D__law_any.ok (hr.mono (by first | decide | omega)) rfl D__law_any.at_ D__law_any.kp D__law_any.bd .nil pass0 (pa_cons (pv 0) (pa_cons (pe_lst (pa_cons (pe_lst (pa_cons (pv 1) pa_nil)) (pa_cons (pe_tup (pa_cons (pv 1) pa_nil)) (pa_cons (pe_disp (pps_cons pe_int (pv 1) pps_nil) (by rfl) (by rfl) (fun z => by cases z) (by decide)) pa_nil)))) pa_nil))))))
      (pss_one (L2.ps_ret (pv 1))))), body_run ok r k ?_⟩
  obtain ⟨p, rfl, hp, hP⟩ := hF
  refine Dl.ps_seq (Dl.ps_set ?_)
  walk_at "ds"
  refine pv_lst2 ?_
  walk_at "ds"
  refine use_FL rfl ⟨p, _, rfl, by simp, by simp, hp, fun g1 d hp1 hk1 hd => ?_⟩
  have hd' : sm 100 B12 d = true := by
    simp only [List.mem_cons, List.not_mem_nil, or_false] at hd
    rcases hd with rfl | rfl | rfl | rfl <;> decide +kernel
  walk_at "ds"
  refine Dl.ps_for (pit_rng1 ?_)
  walk_at "ds"
  refine use_FL rfl ⟨p, _, rfl, by decide, by decide, hp1, fun g2 i hp2 hk2 hi0 hi1 => ?_⟩
  walk_at "ds"
  refine ⟨by omega, by omega, fun n ρ2 (g3 : Store) => ∃ (x : PyData) (e2 : Option EV), ρ2 = [some (.r (.ref p)), some (.d x), e2] ∧ PotIs g3 p ∧ Kept g g3 p ∧ sm 100 B12 x = true, ⟨d, none, rfl, hp2, hk1.trans hk2, hd'⟩, ?_, ?_⟩
  · rintro n ρ2 g3 hn ⟨x, e2, rfl, hp3, hk3, hx⟩
    walk_at "ds"
    refine pv_lst2 ?_
    walk_at "ds"
    refine pv_lst2 ?_
    walk_at "ds"
    refine pv_dispD ?_
    refine pp_consI ?_
    walk_at "ds"
    refine pp_nil ⟨_, rfl, by simp, by simp, ?_⟩
    walk_at "ds"
    refine use_FL rfl ⟨p, _, rfl, by simp, by simp, hp3, fun g4 y hp4 hk4 hy => ?_⟩
    refine ⟨y, _, rfl, hp4, hk3.trans hk4, ?_⟩
    simp only [List.mem_cons, List.not_mem_nil, or_false] at hy
    rcases hy with rfl | rfl | rfl
    · simp [sm_lst, hx]
    · simp [sm_tup, hx]
    · simp [sm]
  · rintro ρ2 g3 ⟨x, e2, rfl, hp3, hk3, hx⟩
    walk_at "ds"
    exact hP g3 x hp3 hk3 hx
theorem ok__law_bent0 {f : Addr} {fd : FuncData} (F : Fun K "_law_bent" "_law_bent" s__law_bent f fd) : FnOk P w K mg base CX0 4 f fd ["_law_pot_here", "_law_thing"] (SpF K (F_bent 0)) := by
  refine F.ok sc__law_bent (fun vs H Q E h => ?_) (fun cdv A outer s H vs Q E hr h => ?_)
  · exact lenF h fun c g es P h => h.1
  · obtain ⟨I, g, es, P, ok, r, ⟨p, d, -, -, -, hd, -⟩, k⟩ := spFL h
    exact absurd hd (Nat.not_lt_zero _)
theorem ok__law_bent {f : Addr} {fd : FuncData} (F : Fun K "_law_bent" "_law_bent" s__law_bent f fd)  {k0 : Nat} (B : Blt mg) {f__law_draw : Addr} {fd__law_draw : FuncData} {ps__law_draw : List Str} (D__law_draw : L2.Def P w K mg base 1 "_law_draw" f__law_draw fd__law_draw ps__law_draw (SpF K F__law_draw)) {f__law_bent : Addr} {fd__law_bent : FuncData} {ps__law_bent : List Str} (D__law_bent : L2.Def P w K mg base (k0+4) "_law_bent" f__law_bent fd__law_bent ps__law_bent (SpF K (F_bent k0))) {f__law_any : Addr} {fd__law_any : FuncData} {ps__law_any : List Str} (D__law_any : L2.Def P w K mg base 2 "_law_any" f__law_any fd__law_any ps__law_any (SpF K F__law_any)) {f__law_deep : Addr} {fd__law_deep : FuncData} {ps__law_deep : List Str} (D__law_deep : L2.Def P w K mg base 3 "_law_deep" f__law_deep fd__law_deep ps__law_deep (SpF K (FPd (fun d => sm 100 B12 d = true))))  : FnOk P w K mg base CX0 (k0+5) f fd ["_law_pot_here", "_law_thing"] (SpF K (F_bent (k0+1))) := by
  refine F.ok sc__law_bent (fun vs H Q E h => ?_) (fun cdv A outer s H vs Q E hr h => ?_)
  · exact lenF h fun c g es P h => h.1
  obtain ⟨I, g, es, P, ok, r, hF, k⟩ := spFL h
  have nd := sc__law_bent.nd
  have hu := hr.units
  have hu1 := hu_of hr
  refine ⟨_, (pss_cons (L2.ps_if (PW.pt (pw_and (pt_val (pe_callB (cr_isi (K := (sC K).K)) (by rfl) B.isinstance_ (by decide +kernel) (pa_cons (pv 1) (pa_cons (pe_bltn (v := .ty "tuple") (by rfl) B.tuple_ PyProof.Rows.boot_tuple rfl) pa_nil)))) (pw_and (pt_cmpR op_gt (pe_callB (cr_len (K := (sC K).K)) (by rfl) B.len_ PySem.boot_len (pa_cons (pv 1) pa_nil)) pe_int (nomark _)) (pw_and1 (pt_cmpR op_gt (pe_call D__law_draw.ok (hr.mono (by first | decide | omega)) rfl D__law_draw.at_ D__law_draw.kp D__law_draw.bd .nil pass0 (pa_cons (pv 0) (pa_cons pe_int pa_nil))) pe_int (nomark _)))))) (pss_cons (L2.ps_set (i := 2) nd rfl (by first | exact Or.inl rfl | exact Or.inr rfl | exact Or.inr (Or.inl rfl)) (pe_call D__law_draw.ok (hr.mono (by first | decide | omega)) rfl D__law_draw.at_ D__law_draw.kp D__law_draw.bd .nil pass0 (pa_cons (pv 0) (pa_cons (pe_callB (cr_len (K := (sC K).K)) (by rfl) B.len_ PySem.boot_len (pa_cons (pv 1) pa_nil)) pa_nil))))
      (pss_one (L2.ps_ret (pe_op (op_zadd (K := (sC K).K)) (pe_op (op_zadd (K := (sC K).K)) (pe_slice (sl_z (K := (sC K).K)) (pv 1) po_none (po_some (pv 2))) (pe_tup (pa_cons (pe_call D__law_bent.ok (hr.mono (by first | decide | omega)) rfl D__law_bent.at_ D__law_bent.kp D__law_bent.bd .nil pass0 (pa_cons (pv 0) (pa_cons (pe_ix (ix_z (K := (sC K).K) (w := w)) (pv 1) (pv 2) (fun _ _ => rfl)) pa_nil))) pa_nil))) (pe_slice (sl_z (K := (sC K).K)) (pv 1) (po_some (pe_op (op_zadd (K := (sC K).K)) (pv 2) pe_int)) po_none))))) pss_nil)
      (pss_cons (L2.ps_set (i := 3) nd rfl (by first | exact Or.inl rfl | exact Or.inr rfl | exact Or.inr (Or.inl rfl)) (pe_lst (pa_cons pe_non (pa_cons pe_bl (pa_cons pe_bl (pa_cons (pe_un un_neg pe_int) (pa_cons pe_int (pa_cons pe_int (pa_cons pe_int (pa_cons pe_str (pa_cons pe_str (pa_cons pe_str (pa_cons pe_str (pa_cons pe_str (pa_cons (pe_op op_mulS pe_str pe_int) (pa_cons (pe_tup pa_nil) (pa_cons (pe_lst pa_nil) (pa_cons pe_dnewK (pa_cons (pe_tup (pa_cons pe_int (pa_cons pe_int (pa_cons pe_int pa_nil)))) (pa_cons (pe_tup (pa_cons pe_int (pa_cons pe_int (pa_cons pe_int pa_nil)))) pa_nil))))))))))))))))))))
      (pss_cons (L2.ps_if (pt_val (pe_callB (cr_isi (K := (sC K).K)) (by rfl) B.isinstance_ (by decide +kernel) (pa_cons (pv 1) (pa_cons (pe_bltn (v := .ty "tuple") (by rfl) B.tuple_ PyProof.Rows.boot_tuple rfl) pa_nil)))) (pss_one (L2.ps_set (i := 3) nd rfl (by first | exact Or.inl rfl | exact Or.inr rfl | exact Or.inr (Or.inl rfl)) (pe_lst (pa_cons (pe_callTy (cr_list (K := (sC K).K)) (by rfl) B.list_ PyProof.Rows.boot_list (pa_cons (pv 1) pa_nil)) (pa_cons (pe_op (op_zadd (K := (sC K).K)) (pv 1) (pe_tup (pa_cons pe_non pa_nil))) (pa_cons (pe_slice (sl_z (K := (sC K).K)) (pv 1) (po_some pe_int) po_none) (pa_cons (pe_slice (sl_z (K := (sC K).K)) (pv 1) po_none (po_some (pe_un un_neg pe_int))) (pa_cons (pe_revA (pv 1)) (pa_cons (pe_op (op_zadd (K := (sC K).K)) (pv 1) (pv 1)) (pa_cons pe_non (pa_cons pe_int pa_nil))))))))))) (pss_one (L2.ps_if (pt_val (pe_callB (cr_isi (K := (sC K).K)) (by rfl) B.isinstance_ (by decide +kernel) (pa_cons (pv 1) (pa_cons (pe_bltn (v := .ty "int") (by rfl) B.int_ PyProof.Rows.boot_int rfl) pa_nil)))) (pss_one (L2.ps_set (i := 3) nd rfl (by first | exact Or.inl rfl | exact Or.inr rfl | exact Or.inr (Or.inl rfl)) (pe_op (op_zadd (K := (sC K).K)) (pv 3) (pe_lst (pa_cons (pe_op (op_zadd (K := (sC K).K)) (pv 1) pe_int) (pa_cons (pe_op op_sub (pv 1) pe_int) (pa_cons (pe_un un_neg (pv 1)) (pa_cons (pe_cmpR (op_zeq (K := (sC K).K) hu) (pv 1) pe_int (nomark _)) (pa_cons (pe_op (op_zadd (K := (sC K).K)) (pv 1) pe_int) pa_nil))))))))) (pss_one (L2.ps_if (pt_val (pe_callB (cr_isi (K := (sC K).K)) (by rfl) B.isinstance_ (by decide +kernel) (pa_cons (pv 1) (pa_cons (pe_bltn (v := .ty "str") (by rfl) B.str_ PyProof.Rows.boot_str rfl) pa_nil)))) (pss_one (L2.ps_set (i := 3) nd rfl (by first | exact Or.inl rfl | exact Or.inr rfl | exact Or.inr (Or.inl rfl)) (pe_op (op_zadd (K := (sC K).K)) (pv 3) (pe_lst (pa_cons (pe_op (op_zadd (K := (sC K).K)) (pv 1) pe_str) (pa_cons (pe_op (op_zadd (K := (sC K).K)) (pv 1) pe_str) (pa_cons (pe_bm0 PySem.F.plainAttrs_str PySem.F.slot_str_upper PySem.F.type_str_upper mt_upper (pv 1)) (pa_cons (pe_slice (sl_z (K := (sC K).K)) (pv 1) (po_some pe_int) po_none) (pa_cons (pe_op (op_zadd (K := (sC K).K)) pe_str (pv 1)) pa_nil))))))))) pss_nil)))))
      (pss_one (L2.ps_ret (pe_call D__law_any.ok (hr.mono (by first | decide | omega)) rfl D__law_any.at_ D__law_any.kp D__law_any.bd .nil pass0 (pa_cons (pv 0) (pa_cons (pe_op (op_zadd (K := (sC K).K)) (pv 3) (pe_lst (pa_cons (pe_call D__law_deep.ok (hr.mono (by first | decide | omega)) rfl D__law_deep.at_ D__law_deep.kp D__law_deep.bd .nil pass0 (pa_cons (pv 0) pa_nil)) pa_nil))) pa_nil)))))))), body_run ok r k ?_⟩
  obtain ⟨p, d, rfl, hp, hgd, hdep, hP⟩ := hF
  have hsm : SM d := sm_of_gd (by decide) (by decide) hgd
  -- what is done where nothing within is taken
  refine ps_cut (fun ρ1 (g1 : Store) => PotIs g1 p ∧ Kept g g1 p ∧ ρ1 = [some (.r (.ref p)), some (.d d), none, none]) ?_ ?_
  · cases d with
    | tuple ds =>
      have hz : ds.length ≤ 100 := (gd_tup.mp hgd).1
      walk_at "ds"
      refine ite_b (fun hb => ?_) (fun hb => ?_)
      · have hl := of_decide_eq_true hb
        walk_at "ds"
        refine use_FL rfl ⟨p, _, rfl, by decide, by decide, hp, fun g1 i hp1 hk1 hi0 hi1 => ?_⟩
        walk_at "ds"
        refine ite_b (fun hb2 => ?_) (fun hb2 => ?_)
        · walk_at "ds"
          refine use_FL rfl ⟨p, _, rfl, by omega, by omega, hp1, fun g2 i hp2 hk2 hi0 hi1 => ?_⟩
          obtain ⟨n, rfl⟩ := Int.eq_ofNat_of_zero_le hi0
          have hn : n < ds.length := by omega
          have ea : atI ds (n : Int) = some ds[n] := atI_nat (List.getElem?_eq_getElem hn)
          have hm : ds[n] ∈ ds := List.getElem_mem hn
          walk_at "ds"
          refine o_ixT ea ?_
          walk_at "ds"
          refine use_FL rfl ⟨p, _, rfl, hp2, (gd_tup.mp hgd).2 _ hm, ?_, fun g3 x hp3 hk3 hx => ?_⟩
          · have h1 : (ds[n]).depth ≤ PyData.depthAll ds := depth_mem hm
            simp only [PyData.depth] at hdep
            omega
          walk_at "ds"
          refine o_addT (le_line (by have := cut_len (xs := ds) (lo := none) (hi := some (n : Int)); simp; omega)) ?_
          walk_at "ds"
          refine o_addT (le_line (by have := cut_len (xs := ds) (lo := none) (hi := some (n : Int)); have := cut_len (xs := ds) (lo := some ((n : Int) + 1)) (hi := none); simp; omega)) ?_
          refine hP g3 _ hp3 ((hk1.trans hk2).trans hk3) (sm_tup.mpr ⟨?_, fun y my => ?_⟩)
          · have := cut_len (xs := ds) (lo := none) (hi := some (n : Int)); have := cut_len (xs := ds) (lo := some ((n : Int) + 1)) (hi := none); simp; omega
          · have hall := (sm_tup.mp hsm).2
            rw [List.mem_append, List.mem_append] at my
            rcases my with (my | my) | my
            · exact hall y (cut_mem _ my)
            · rw [List.mem_singleton] at my; rw [my]; exact hx
            · exact hall y (cut_mem _ my)
        · walk_at "ds"
          exact ⟨hp1, hk1, rfl⟩
      · walk_at "ds"
        exact ⟨hp, Kept.refl, rfl⟩
    | bool b => simp [gd] at hgd
    | list xs => simp [gd] at hgd
    | dict kvs => simp [gd] at hgd
    | _ =>
      walk_at "ds"
      exact ⟨hp, Kept.refl, rfl⟩
  · rintro ρ1 g1 ⟨hp1, hk1, rfl⟩
    refine ps_cut (fun ρ2 (g2 : Store) => ρ2 = [some (.r (.ref p)), some (.d d), none, some (.d (.list bentL))] ∧ g2 = g1) ?_ ?_
    · refine Dl.ps_set ?_
      refine pv_lst2 ?_
      walk_at "ds"
      refine o_mulS (mulOk_small (k := 97) (by decide +kernel) (by decide)) ?_
      walk_at "ds"
      refine pv_lst2 ?_
      walk_at "ds"
      refine pv_dnewD ?_
      walk_at "ds"
      exact ⟨rfl, rfl⟩
    rintro ρ2 g2 ⟨rfl, rfl⟩
    refine ps_cut (fun ρ2 (g2 : Store) => PotIs g2 p ∧ Kept g g2 p ∧ ∃ ds : List PyData, ρ2 = [some (.r (.ref p)), some (.d d), none, some (.d (.list ds))] ∧ ds.length ≤ 60 ∧ ∀ x ∈ ds, SM x) ?_ ?_
    · have base' : PotIs g2 p ∧ Kept g g2 p ∧ ∃ ds : List PyData, ([some (.r (.ref p)), some (.d d), none, some (.d (.list bentL))] : Rho) = [some (.r (.ref p)), some (.d d), none, some (.d (.list ds))] ∧ ds.length ≤ 60 ∧ ∀ x ∈ ds, SM x := ⟨hp1, hk1, _, rfl, by decide, bentL_sm⟩
      cases d with
      | tuple ds =>
        have hz : ds.length ≤ 100 := (gd_tup.mp hgd).1
        have hall := (sm_tup.mp hsm).2
        walk_at "ds"
        refine pv_lst2 ?_
        walk_at "ds"
        refine oc_listT ?_
        walk_at "ds"
        refine o_addT (le_line (by simp; omega)) ?_
        walk_at "ds"
        refine pv_revA ?_
        walk_at "ds"
        refine .inl ⟨_, rfl, ?_⟩
        walk_at "ds"
        refine o_addT (le_line (by omega)) ?_
        walk_at "ds"
        refine ⟨hp1, hk1, _, rfl, by simp, fun x mx => ?_⟩
        simp only [List.mem_cons, List.not_mem_nil, or_false] at mx
        rcases mx with rfl | rfl | rfl | rfl | rfl | rfl | rfl | rfl
        · exact sm_lst.mpr ⟨by omega, hall⟩
        · exact sm_tup.mpr ⟨by simp; omega, fun y my => by
            rcases List.mem_append.mp my with my | my
            · exact hall y my
            · rw [List.mem_singleton] at my; rw [my]; decide⟩
        · exact sm_tup.mpr ⟨by have := cut_len (xs := ds) (lo := some 1) (hi := none); omega, fun y my => hall y (cut_mem _ my)⟩
        · exact sm_tup.mpr ⟨by have := cut_len (xs := ds) (lo := none) (hi := some (-1)); omega, fun y my => hall y (cut_mem _ my)⟩
        · exact sm_tup.mpr ⟨by simp; omega, fun y my => hall y (by simpa using my)⟩
        · exact sm_tup.mpr ⟨by simp; omega, fun y my => hall y (by simpa using my)⟩
        · decide
        · decide
      | int i =>
        have hi := gd_int.mp hgd
        simp only [B12] at hi
        walk_at "ds"
        refine pv_lst2 ?_
        walk_at "ds"
        refine o_catL (le_line (by simp [bentL])) ?_
        refine ⟨hp1, hk1, _, rfl, by simp [bentL], fun x mx => ?_⟩
        rcases List.mem_append.mp mx with mx | mx
        · exact bentL_sm x mx
        simp only [List.mem_cons, List.not_mem_nil, or_false] at mx
        rcases mx with rfl | rfl | rfl | rfl | rfl
        · exact sm_int.mpr (by simp only [B12]; omega)
        · exact sm_int.mpr (by simp only [B12]; omega)
        · exact sm_int.mpr (by simp only [B12]; omega)
        · show sm _ _ _ = true; rw [sm] <;> simp
        · exact sm_int.mpr (by simp only [B12]; omega)
      | str z =>
        have hz := gd_str.mp hgd
        walk_at "ds"
        refine pv_lst2 ?_
        walk_at "ds"
        refine o_addS (le_line (by have : ("a" : Str).length = 1 := (by decide); omega)) ?_
        walk_at "ds"
        refine o_addS (le_line (by have : ("\n" : Str).length = 1 := (by decide); omega)) ?_
        walk_at "ds"
        refine pv_upper ?_
        walk_at "ds"
        refine ⟨by omega, ?_⟩
        walk_at "ds"
        refine os_str (le_line (by omega)) ?_
        walk_at "ds"
        refine o_addS (le_line (by have : (" " : Str).length = 1 := (by decide); omega)) ?_
        walk_at "ds"
        refine o_catL (le_line (by simp [bentL])) ?_
        refine ⟨hp1, hk1, _, rfl, by simp [bentL], fun x mx => ?_⟩
        rcases List.mem_append.mp mx with mx | mx
        · exact bentL_sm x mx
        simp only [List.mem_cons, List.not_mem_nil, or_false] at mx
        have l1 : ("a" : Str).length = 1 := by decide
        have l2 : ("\n" : Str).length = 1 := by decide
        have l3 : (" " : Str).length = 1 := by decide
        rcases mx with rfl | rfl | rfl | rfl | rfl
        · exact sm_word (by rw [Str.length_append]; omega)
        · exact sm_word (by rw [Str.length_append]; omega)
        · exact sm_word (by have := PyProof.Rows.len_upper z; omega)
        · exact sm_word (by have := cutS_len (z := z) (lo := some 1) (hi := none); omega)
        · exact sm_word (by rw [Str.length_append]; omega)
      | none =>
        walk_at "ds"
        exact base'
      | bool b => simp [gd] at hgd
      | list xs => simp [gd] at hgd
      | dict kvs => simp [gd] at hgd
    · rintro ρ2 g2 ⟨hp2, hk2, ds, rfl, hl, hds⟩
      walk_at "ds"
      refine pv_lst2 ?_
      walk_at "ds"
      refine use_FL rfl ⟨p, rfl, hp2, fun g3 y hp3 hk3 hy => ?_⟩
      walk_at "ds"
      refine o_catL (le_line (by simp; omega)) ?_
      walk_at "ds"
      refine use_FL rfl ⟨p, _, rfl, by simp, by simp; omega, hp3, fun g4 x hp4 hk4 hx => ?_⟩
      refine hP g4 x hp4 ((hk2.trans hk3).trans hk4) ?_
      rcases List.mem_append.mp hx with mx | mx
      · exact hds x mx
      · rw [List.mem_singleton] at mx
        rw [mx]
        exact sm_mono (by decide) (by decide) hy
end Pr
set_option Elab.async false
set_option linter.all false
set_option autoImplicit false
set_option maxRecDepth 100000
set_option maxHeartbeats 4000000
set_option pp.maxSteps 500
namespace Pr
open PySem PySem.Spec PyProof.Rows L2 Dl
local macro_rules | `(tactic| walk_at "dl1") => `(tactic| first
  | ((with_reducible show PSt _ _ _ _ _ _); first
    | (with_reducible refine ps_seq ?_)
    | (with_reducible refine ps_ret ?_)
    | (with_reducible refine ps_if ?_)
    | (with_reducible refine ps_set ?_)
    | (with_reducible refine ps_next ?_)
    | (with_reducible refine ps_drop ?_))
  | ((with_reducible show PV _ _ _ _ _); first
    | ((with_reducible refine' pv_var ?k1 ?_); (case k1 => rfl))
    | (with_reducible refine pv_int ?_)
    | (with_reducible refine pv_str ?_)
    | (with_reducible refine pv_bl ?_)
    | (with_reducible refine pv_non ?_)
    | (with_reducible refine pv_and ?_)
    | (with_reducible refine pv_or ?_)
    | (with_reducible refine pv_not ?_)
    | (with_reducible refine pv_if ?_)
    | (with_reducible refine pv_op ?_)
    | (with_reducible refine pv_un ?_)
    | (with_reducible refine pv_chain ?_)
    | (with_reducible refine pv_tup ?_)
    | (with_reducible refine pv_lst2 ?_)
    | (with_reducible refine pv_call ?_)
    | (with_reducible refine pv_allT ?_)
    | (with_reducible refine pv_allS ?_)
    | (with_reducible refine pv_allR ?_)
    | (with_reducible refine pv_lcT ?_)
    | (with_reducible refine pv_lcL ?_)
    | (with_reducible refine pv_lcTF ?_)
    | (with_reducible refine pv_listRg2 ?_)
    | (with_reducible refine pv_cb ?_)
    | (with_reducible refine pv_sl ?_)
    | ((with_reducible refine' pv_const ?k1 ?_); (case k1 => assumption))
    | ((with_reducible refine' pv_constR ?k1 ?_); (case k1 => assumption))
    | (with_reducible refine pv_raw ?_))
  | ((with_reducible show O2 _ _ _ _ _ _); first
    | (with_reducible refine o_add ?_)
    | (with_reducible refine o_ii ?_)
    | (with_reducible refine o_ib ?_)
    | (with_reducible refine o_le ?_)
    | (with_reducible refine o_lt ?_)
    | (with_reducible refine o_eqI ?_)
    | (with_reducible refine o_neI ?_)
    | (with_reducible refine o_eqS ?_)
    | (with_reducible refine o_eqB ?_)
    | (with_reducible refine o_neB ?_)
    | (with_reducible refine o_leS ?_)
    | (with_reducible refine o_inS ?_)
    | ((with_reducible refine' o_isN ?k1 ?_); (case k1 => rfl))
    | ((with_reducible refine' o_notN ?k1 ?_); (case k1 => rfl))
    | (with_reducible refine o_isntB ?_)
    | ((with_reducible refine' o_ixT ?k1 ?_); (case k1 => first | exact at0 | exact at1 | exact atI_nat (j := 2) rfl | exact atI_nat (j := 3) rfl | exact atI_nat (j := 4) rfl | exact atI_nat (j := 5) rfl | exact atI_nat (j := 6) rfl | rfl)))
  | ((with_reducible show OC _ _ _ _ _); first
    | (with_reducible refine oc_isi (isT_int _) ?_)
    | (with_reducible refine oc_isi (isT_bool _) ?_)
    | (with_reducible refine oc_isi (isT_str _) ?_)
    | (with_reducible refine oc_isi (isT_tuple _) ?_)
    | (with_reducible refine oc_isi (isT_list _) ?_)
    | (with_reducible refine oc_lenT ?_)
    | (with_reducible refine oc_lenL ?_)
    | (with_reducible refine oc_lenR ?_)
    | ((with_reducible refine oc_lenS ?k1 ?_); (case k1 => assumption)))
  | ((with_reducible show PAs _ _ _ _ _); first
    | (with_reducible refine pas_nil ?_)
    | (with_reducible refine pas_cons ?_))
  | ((with_reducible show PB _ _ _ _ _); first
    | (with_reducible refine pb_test' ?_)
    | (with_reducible refine pb_B ?_)
    | (with_reducible refine pb_and ?_)
    | (with_reducible refine pb_or ?_)
    | (with_reducible refine pb_not ?_))
  | ((with_reducible show PPart _ _ _ _ _); first
    | (with_reducible refine pp_none ?_)
    | (with_reducible refine pp_some ?_))
  | ((with_reducible show OSl _ _ _ _ _ _ _); first
    | (with_reducible refine os_tup ?_))
  | ((with_reducible refine ite_t ?k1 ?_); (case k1 => rfl))
  | ((with_reducible refine ite_f ?k1 ?_); (case k1 => rfl))
  | ((with_reducible refine use_FJ ?k1 ?_); (case k1 => first | rfl | assumption))
  | (with_reducible refine use_is_between ?_)
  | (with_reducible refine use_is_tuple_of ?_)
  | (refine Or.inl (Exists.intro _ (And.intro rfl (And.intro (le_line (Nat.le_of_ble_eq_true rfl)) ?_))))
  | (refine Or.inr (Exists.intro _ (And.intro rfl (And.intro (le_line (Nat.le_of_ble_eq_true rfl)) ?_))))
  | (with_reducible refine Exists.intro _ (And.intro rfl ?_))
  | ((with_reducible refine And.intro ?k1 ?_); (case k1 => exact le_line (Nat.le_of_ble_eq_true rfl))))
local macro_rules | `(tactic| walk_at "dl") => `(tactic| repeat walk_at "dl1")
variable {P : Program} {w : World} {K : PySem.W.Frag} {mg : Str → Option Value} {base : Heap}
theorem ok__law_is_int {f : Addr} {fd : FuncData} (F : Fun K "_law_is_int" "_law_is_int" s__law_is_int f fd)   (B : Blt mg)  : FnOk P w K mg base CX0 1 f fd ["_law_thing", "_law_least"] (SpF K F_is_int) := by
  refine F.ok sc__law_is_int (fun vs H Q E h => ?_) (fun cdv A outer s H vs Q E hr h => ?_)
  · exact lenF h fun c g es P h => h.1
  obtain ⟨c, I, g, es, P, rfl, ok, r, hF, k⟩ := h
  have nd := sc__law_is_int.nd
  have hu := hr.units
  have hu1 := hu_of hr
  refine ⟨_, (pss_one (L2.ps_ret (pe_and (pe_callB (cr_isi (K := c.K)) (by rfl) B.isinstance_ (by decide +kernel) (pa_cons (pv 0) (pa_cons (pe_bltn (v := .ty "int") (by rfl) B.int_ PyProof.Rows.boot_int rfl) pa_nil))) (pe_and (pe_not (pe_callB (cr_isi (K := c.K)) (by rfl) B.isinstance_ (by decide +kernel) (pa_cons (pv 0) (pa_cons (pe_bltn (v := .ty "bool") (by rfl) B.bool_ PyProof.Rows.boot_bool rfl) pa_nil)))) (pe_one (pe_cmpR op_ge (pv 0) (pv 1) (nomark _))))))), body_run ok r k ?_⟩
  obtain ⟨-, d, k, rfl, hP⟩ := hF
  cases d <;> walk_at "dl" <;> exact hP
theorem ok__law_is_name {f : Addr} {fd : FuncData} (F : Fun K "_law_is_name" "_law_is_name" s__law_is_name f fd)   (B : Blt mg)  : FnOk P w K mg base CX0 1 f fd ["_law_thing"] (SpF K (FJ fit isName)) := by
  refine F.ok sc__law_is_name (fun vs H Q E h => ?_) (fun cdv A outer s H vs Q E hr h => ?_)
  · exact lenF h fun c g es P h => h.1
  obtain ⟨c, I, g, es, P, rfl, ok, r, hF, k⟩ := h
  have nd := sc__law_is_name.nd
  have hu := hr.units
  have hu1 := hu_of hr
  refine ⟨_, (pss_one (L2.ps_ret (pe_and (pe_callB (cr_isi (K := c.K)) (by rfl) B.isinstance_ (by decide +kernel) (pa_cons (pv 0) (pa_cons (pe_bltn (v := .ty "str") (by rfl) B.str_ PyProof.Rows.boot_str rfl) pa_nil))) (pe_and (pe_chain op_zle op_zle pe_int (pe_callB (cr_len (K := c.K)) (by rfl) B.len_ PySem.boot_len (pa_cons (pv 0) pa_nil)) pe_int) (pe_one (pe_callB (cr_allZ (K := c.K) rfl) (by rfl) B.all_ (by decide +kernel) (pa_cons (pe_lc (own := [("_law_sign", 1)]) (g := gName 1) (tt := tYes) rfl nd (pi_str (pv 0)) (blkOk_by (N := ["_law_thing", "_law_sign"]) (sc := defScope s__law_is_name) (by decide +kernel)) (fun _ _ _ _ _ => pg_name (i := 1) nd rfl (Or.inl rfl)) (fun _ _ _ _ _ => pts_nil) (fun _ _ _ _ _ => (pe_chain op_zle op_zle pe_str (pv 1) pe_str))) pa_nil))))))), body_run ok r k ?_⟩
  obtain ⟨-, d, rfl, hf, hP⟩ := hF
  walk_at "dl"
  refine ite_b (fun hb => ?_) (fun hb => ?_)
  · obtain ⟨x, rfl⟩ := str_of hb
    have hz : x.length ≤ sizeLine := le_line (fit_str.mp hf).1
    walk_at "dl"
    refine ite_b (fun h1 => ?_) (fun h1 => ?_)
    · walk_at "dl"
      refine ite_b (fun h2 => ?_) (fun h2 => ?_)
      · walk_at "dl"
        refine ⟨by simp, (fit_str.mp hf).1, fun n => decide (n ∈ lows.cps.toList), fun n hn => ?_, fin hP (by simp only [isName, h1, h2, Bool.true_and])⟩
        walk_at "dl"
        rw [low_lo]
        refine ite_b (fun h3 => ?_) (fun h3 => ?_)
        · walk_at "dl"
          refine ⟨?_, rfl⟩
          dsimp only
          rw [low_hi, ← low_in, h3, Bool.true_and]
        · refine ⟨?_, rfl⟩
          dsimp only
          rw [← low_in, h3, Bool.false_and]
      · exact fin hP (by simp only [isName, h1, h2, Bool.true_and, Bool.false_and])
    · walk_at "dl"
      exact fin hP (by simp only [isName, h1, Bool.false_and])
  · exact fin hP (by cases d <;> first | rfl | cases hb)
theorem ok__law_is_text {f : Addr} {fd : FuncData} (F : Fun K "_law_is_text" "_law_is_text" s__law_is_text f fd)   (B : Blt mg)  : FnOk P w K mg base CX0 1 f fd ["_law_thing"] (SpF K (FJ fit isText)) := by
  refine F.ok sc__law_is_text (fun vs H Q E h => ?_) (fun cdv A outer s H vs Q E hr h => ?_)
  · exact lenF h fun c g es P h => h.1
  obtain ⟨c, I, g, es, P, rfl, ok, r, hF, k⟩ := h
  have nd := sc__law_is_text.nd
  have hu := hr.units
  have hu1 := hu_of hr
  refine ⟨_, (pss_one (L2.ps_ret (pe_and (pe_callB (cr_isi (K := c.K)) (by rfl) B.isinstance_ (by decide +kernel) (pa_cons (pv 0) (pa_cons (pe_bltn (v := .ty "str") (by rfl) B.str_ PyProof.Rows.boot_str rfl) pa_nil))) (pe_and (pe_cmpR op_zle (pe_callB (cr_len (K := c.K)) (by rfl) B.len_ PySem.boot_len (pa_cons (pv 0) pa_nil)) pe_int (nomark _)) (pe_one (pe_callB (cr_allZ (K := c.K) rfl) (by rfl) B.all_ (by decide +kernel) (pa_cons (pe_lc (own := [("_law_sign", 1)]) (g := gName 1) (tt := tYes) rfl nd (pi_str (pv 0)) (blkOk_by (N := ["_law_thing", "_law_sign"]) (sc := defScope s__law_is_text) (by decide +kernel)) (fun _ _ _ _ _ => pg_name (i := 1) nd rfl (Or.inl rfl)) (fun _ _ _ _ _ => pts_nil) (fun _ _ _ _ _ => (pe_chain op_zle op_zle pe_str (pv 1) pe_str))) pa_nil))))))), body_run ok r k ?_⟩
  obtain ⟨-, d, rfl, hf, hP⟩ := hF
  walk_at "dl"
  refine ite_b (fun hb => ?_) (fun hb => ?_)
  · obtain ⟨x, rfl⟩ := str_of hb
    have hz : x.length ≤ sizeLine := le_line (fit_str.mp hf).1
    walk_at "dl"
    refine ite_b (fun h1 => ?_) (fun h1 => ?_)
    · walk_at "dl"
      refine ⟨by simp, (fit_str.mp hf).1, isSign, fun n hn => ?_, fin hP (by simp only [isText, h1, Bool.true_and])⟩
      walk_at "dl"
      rw [sign_lo]
      refine ite_b (fun h2 => ?_) (fun h2 => ?_)
      · walk_at "dl"
        refine ⟨?_, rfl⟩
        rw [sign_hi]
        simp only [isSign, h2, Bool.true_and]
      · refine ⟨?_, rfl⟩
        simp only [isSign, h2, Bool.false_and]
    · exact fin hP (by simp only [isText, h1, Bool.false_and])
  · exact fin hP (by cases d <;> first | rfl | cases hb)
theorem ok__law_is_client {f : Addr} {fd : FuncData} (F : Fun K "_law_is_client" "_law_is_client" s__law_is_client f fd)   {f__law_is_int : Addr} {fd__law_is_int : FuncData} {ps__law_is_int : List Str} (D__law_is_int : L2.Def P w K mg base 1 "_law_is_int" f__law_is_int fd__law_is_int ps__law_is_int (SpF K F_is_int))  : FnOk P w K mg base CX0 2 f fd ["_law_thing"] (SpF K (FJ fit isClient)) := by
  refine F.ok sc__law_is_client (fun vs H Q E h => ?_) (fun cdv A outer s H vs Q E hr h => ?_)
  · exact lenF h fun c g es P h => h.1
  obtain ⟨c, I, g, es, P, rfl, ok, r, hF, k⟩ := h
  have nd := sc__law_is_client.nd
  have hu := hr.units
  have hu1 := hu_of hr
  refine ⟨_, (pss_one (L2.ps_ret (pe_and (pe_call D__law_is_int.ok (hr.mono (by first | decide | omega)) rfl D__law_is_int.at_ D__law_is_int.kp D__law_is_int.bd .nil pass0 (pa_cons (pv 0) (pa_cons pe_int pa_nil))) (pe_one (pe_cmpR op_zle (pv 0) pe_int (nomark _)))))), body_run ok r k ?_⟩
  obtain ⟨-, d, rfl, -, hP⟩ := hF
  walk_at "dl"
  refine ⟨rfl, d, 1, rfl, ?_⟩
  cases d with
  | int i =>
    dsimp only [isGe]
    refine ⟨_, rfl, ?_⟩
    refine ite_b (fun hb => ?_) (fun hb => ?_)
    · walk_at "dl"
      exact fin hP (by simp [isClient, isBtw, hb])
    · exact fin hP (by simp [isClient, isBtw, hb])
  | _ => exact ⟨_, rfl, ite_f rfl hP⟩
theorem ok__law_is_base {f : Addr} {fd : FuncData} (F : Fun K "_law_is_base" "_law_is_base" s__law_is_base f fd)   (B : Blt mg) {f__law_is_int : Addr} {fd__law_is_int : FuncData} {ps__law_is_int : List Str} (D__law_is_int : L2.Def P w K mg base 1 "_law_is_int" f__law_is_int fd__law_is_int ps__law_is_int (SpF K F_is_int))  : FnOk P w K mg base CX0 2 f fd ["_law_thing"] (SpF K (FJ fit isBase)) := by
  refine F.ok sc__law_is_base (fun vs H Q E h => ?_) (fun cdv A outer s H vs Q E hr h => ?_)
  · exact lenF h fun c g es P h => h.1
  obtain ⟨c, I, g, es, P, rfl, ok, r, hF, k⟩ := h
  have nd := sc__law_is_base.nd
  have hu := hr.units
  have hu1 := hu_of hr
  refine ⟨_, (pss_cons (L2.ps_if (pt_cmpR op_isN (pv 0) pe_non (nomark _)) (pss_one (L2.ps_ret pe_bl)) pss_nil)
      (pss_cons (L2.ps_if (PW.pt (pw_or (pt_not (pt_val (pe_callB (cr_isi (K := c.K)) (by rfl) B.isinstance_ (by decide +kernel) (pa_cons (pv 0) (pa_cons (pe_bltn (v := .ty "tuple") (by rfl) B.tuple_ PyProof.Rows.boot_tuple rfl) pa_nil))))) (pw_or (pt_cmpR (op_zne (K := c.K) hu) (pe_callB (cr_len (K := c.K)) (by rfl) B.len_ PySem.boot_len (pa_cons (pv 0) pa_nil)) pe_int (nomark _)) (pw_or1 (pt_not (pt_val (pe_callB (cr_allZ (K := c.K) rfl) (by rfl) B.all_ (by decide +kernel) (pa_cons (pe_lc (own := [("_law_one", 1)]) (g := gName 1) (tt := tYes) rfl nd (pi_tupZ (K := c.K) (pv 0)) (blkOk_by (N := ["_law_thing", "_law_one"]) (sc := defScope s__law_is_base) (by decide +kernel)) (fun _ _ _ _ _ => pg_name (i := 1) nd rfl (Or.inl rfl)) (fun _ _ _ _ _ => pts_nil) (fun _ _ _ _ _ => (pe_call D__law_is_int.ok (hr.mono (by first | decide | omega)) rfl D__law_is_int.at_ D__law_is_int.kp D__law_is_int.bd .nil pass0 (pa_cons (pv 1) (pa_cons pe_int pa_nil))))) pa_nil)))))))) (pss_one (L2.ps_ret pe_bl)) pss_nil)
      (pss_one (L2.ps_ret (pe_or (pe_cmpR (op_zeq (K := c.K) hu) (pv 0) (pe_tup (pa_cons pe_int (pa_cons pe_int (pa_cons pe_int pa_nil)))) (nomark _)) (pe_one (pe_and (pe_cmpR op_ge (pe_ix (ix_z (K := c.K) (w := w)) (pv 0) pe_int (fun _ _ => rfl)) pe_int (nomark _)) (pe_and (pe_cmpR op_ge (pe_ix (ix_z (K := c.K) (w := w)) (pv 0) pe_int (fun _ _ => rfl)) pe_int (nomark _)) (pe_one (pe_chain op_zle op_zle pe_int (pe_ix (ix_z (K := c.K) (w := w)) (pv 0) pe_int (fun _ _ => rfl)) pe_int)))))))))), body_run ok r k ?_⟩
  obtain ⟨-, d, rfl, hf, hP⟩ := hF
  cases d with
  | tuple ds =>
    walk_at "dl"
    refine ite_b (fun hb => ?_) (fun hb => ?_)
    · walk_at "dl"
      exact fin hP (stamp_not3 (d := .tuple ds) (by show decide ((ds.length : Int) = 3) = false; simpa using hb)).symm
    · obtain ⟨a, b, n, rfl⟩ := three_of_len (r := ds) (by simpa using hb)
      walk_at "dl"
      refine ⟨by simp, (show 3 ≤ 1000000 by decide), isCount, fun x hx => ?_, ?_⟩
      · walk_at "dl"
        refine ⟨rfl, x, 0, rfl, ?_, rfl⟩
        exact congrArg (fun b => EV.d (.bool b)) (isGe_count x)
      · walk_at "dl"
        refine ite_b (fun h1 => ?_) (fun h1 => ?_)
        · walk_at "dl"
          exact fin hP (stamp_no (Bool.not_eq_true' _ ▸ h1)).symm
        · have h1' : (isCount a && isCount b && isCount n) = true := by
            have q : [a, b, n].all isCount = true := by cases z : [a, b, n].all isCount <;> simp [z] at h1 ⊢
            simpa [Bool.and_assoc] using q
          obtain ⟨i, j, k, rfl, rfl, rfl, hi, hj, hk⟩ := counts3 h1'
          walk_at "dl"
          refine o_eq hf (by decide +kernel) (by simp [PyData.canLay0, PyData.canLayAll0]) (by decide +kernel) (by simp [PyData.depth, PyData.depthAll]) (by decide +kernel) ?_
          walk_at "dl"
          refine ite_b (fun h2 => ?_) (fun h2 => ?_)
          · exact fin hP (stamp_first h2).symm
          · walk_at "dl"
            have key : isBase (.tuple [.int i, .int j, .int k]) = (decide (1 ≤ i) && (decide (1 ≤ j) && decide (j ≤ 9)) && decide (1 ≤ k)) := stamp_eq hi hj hk h2
            refine ite_b (fun h3 => ?_) (fun h3 => ?_)
            · walk_at "dl"
              refine ite_b (fun h4 => ?_) (fun h4 => ?_)
              · walk_at "dl"
                refine ite_b (fun h5 => ?_) (fun h5 => ?_)
                · walk_at "dl"
                  refine fin hP ?_
                  rw [key]
                  have h3' := of_decide_eq_true h3
                  have h4' := of_decide_eq_true h4
                  have h5' := of_decide_eq_true h5
                  rw [decide_eq_true (show 1 ≤ i by omega), decide_eq_true (show 1 ≤ k by omega), decide_eq_true (show 1 ≤ j by omega)]
                  simp
                · refine fin hP ?_
                  rw [key]
                  have h5' := of_decide_eq_false h5
                  rw [decide_eq_false (show ¬ 1 ≤ j by omega)]
                  simp
              · refine fin hP ?_
                rw [key]
                have h4' := of_decide_eq_false h4
                rw [decide_eq_false (show ¬ 1 ≤ k by omega)]
                simp
            · refine fin hP ?_
              rw [key]
              have h3' := of_decide_eq_false h3
              rw [decide_eq_false (show ¬ 1 ≤ i by omega)]
              simp
  | _ =>
    walk_at "dl"
    exact hP
theorem ok__law_is_edit {f : Addr} {fd : FuncData} (F : Fun K "_law_is_edit" "_law_is_edit" s__law_is_edit f fd)   (B : Blt mg) {f__law_is_text : Addr} {fd__law_is_text : FuncData} {ps__law_is_text : List Str} (D__law_is_text : L2.Def P w K mg base 1 "_law_is_text" f__law_is_text fd__law_is_text ps__law_is_text (SpF K (FJ fit isText))) {f__law_is_name : Addr} {fd__law_is_name : FuncData} {ps__law_is_name : List Str} (D__law_is_name : L2.Def P w K mg base 1 "_law_is_name" f__law_is_name fd__law_is_name ps__law_is_name (SpF K (FJ fit isName))) {f__law_is_int : Addr} {fd__law_is_int : FuncData} {ps__law_is_int : List Str} (D__law_is_int : L2.Def P w K mg base 1 "_law_is_int" f__law_is_int fd__law_is_int ps__law_is_int (SpF K F_is_int)) {f__law_is_client : Addr} {fd__law_is_client : FuncData} {ps__law_is_client : List Str} (D__law_is_client : L2.Def P w K mg base 2 "_law_is_client" f__law_is_client fd__law_is_client ps__law_is_client (SpF K (FJ fit isClient)))  : FnOk P w K mg base CX0 3 f fd ["_law_thing"] (SpF K (FJ fit isEdit)) := by
  refine F.ok sc__law_is_edit (fun vs H Q E h => ?_) (fun cdv A outer s H vs Q E hr h => ?_)
  · exact lenF h fun c g es P h => h.1
  obtain ⟨c, I, g, es, P, rfl, ok, r, hF, k⟩ := h
  have nd := sc__law_is_edit.nd
  have hu := hr.units
  have hu1 := hu_of hr
  refine ⟨_, (pss_cons (L2.ps_if (PW.pt (pw_or (pt_not (pt_val (pe_callB (cr_isi (K := c.K)) (by rfl) B.isinstance_ (by decide +kernel) (pa_cons (pv 0) (pa_cons (pe_bltn (v := .ty "tuple") (by rfl) B.tuple_ PyProof.Rows.boot_tuple rfl) pa_nil))))) (pw_or (pt_cmpR (op_zeq (K := c.K) hu) (pe_callB (cr_len (K := c.K)) (by rfl) B.len_ PySem.boot_len (pa_cons (pv 0) pa_nil)) pe_int (nomark _)) (pw_or1 (pt_not (pt_val (pe_callB (cr_isi (K := c.K)) (by rfl) B.isinstance_ (by decide +kernel) (pa_cons (pe_ix (ix_z (K := c.K) (w := w)) (pv 0) pe_int (fun _ _ => rfl)) (pa_cons (pe_bltn (v := .ty "str") (by rfl) B.str_ PyProof.Rows.boot_str rfl) pa_nil))))))))) (pss_one (L2.ps_ret pe_bl)) pss_nil)
      (pss_cons (ps_par (i := 1) (j := 2) rfl nd rfl rfl (by decide) rfl rfl (pa_cons (pe_ix (ix_z (K := c.K) (w := w)) (pv 0) pe_int (fun _ _ => rfl)) (pa_cons (pe_slice (sl_z (K := c.K)) (pv 0) (po_some pe_int) po_none) pa_nil)) (by rfl))
      (pss_cons (L2.ps_if (pt_cmpR (op_zeq (K := c.K) hu) (pv 1) pe_str (nomark _)) (pss_one (L2.ps_ret (pe_cmpR (op_zeqE (K := c.K) hu) (pv 2) (pe_tup pa_nil) (nomark _)))) pss_nil)
      (pss_cons (L2.ps_if (pt_cmpR (op_zinT (K := c.K)) (pv 1) (pe_tup (pa_cons pe_str (pa_cons pe_str pa_nil))) rfl) (pss_one (L2.ps_ret (pe_and (pe_cmpR (op_zeq (K := c.K) hu) (pe_callB (cr_len (K := c.K)) (by rfl) B.len_ PySem.boot_len (pa_cons (pv 2) pa_nil)) pe_int (nomark _)) (pe_one (pe_ifExp (pt_cmpR (op_zeq (K := c.K) hu) (pv 1) pe_str (nomark _)) (pe_call D__law_is_text.ok (hr.mono (by first | decide | omega)) rfl D__law_is_text.at_ D__law_is_text.kp D__law_is_text.bd .nil pass0 (pa_cons (pe_ix (ix_z (K := c.K) (w := w)) (pv 2) pe_int (fun _ _ => rfl)) pa_nil)) (pe_call D__law_is_name.ok (hr.mono (by first | decide | omega)) rfl D__law_is_name.at_ D__law_is_name.kp D__law_is_name.bd .nil pass0 (pa_cons (pe_ix (ix_z (K := c.K) (w := w)) (pv 2) pe_int (fun _ _ => rfl)) pa_nil))))))) pss_nil)
      (pss_cons (L2.ps_if (pt_cmpR (op_zeq (K := c.K) hu) (pv 1) pe_str (nomark _)) (pss_one (L2.ps_ret (pe_and (pe_cmpR (op_zeq (K := c.K) hu) (pe_callB (cr_len (K := c.K)) (by rfl) B.len_ PySem.boot_len (pa_cons (pv 2) pa_nil)) pe_int (nomark _)) (pe_and (pe_call D__law_is_int.ok (hr.mono (by first | decide | omega)) rfl D__law_is_int.at_ D__law_is_int.kp D__law_is_int.bd .nil pass0 (pa_cons (pe_ix (ix_z (K := c.K) (w := w)) (pv 2) pe_int (fun _ _ => rfl)) (pa_cons pe_int pa_nil))) (pe_and (pe_call D__law_is_int.ok (hr.mono (by first | decide | omega)) rfl D__law_is_int.at_ D__law_is_int.kp D__law_is_int.bd .nil pass0 (pa_cons (pe_ix (ix_z (K := c.K) (w := w)) (pv 2) pe_int (fun _ _ => rfl)) (pa_cons pe_int pa_nil))) (pe_one (pe_call D__law_is_text.ok (hr.mono (by first | decide | omega)) rfl D__law_is_text.at_ D__law_is_text.kp D__law_is_text.bd .nil pass0 (pa_cons (pe_ix (ix_z (K := c.K) (w := w)) (pv 2) pe_int (fun _ _ => rfl)) pa_nil)))))))) pss_nil)
      (pss_one (L2.ps_ret (pe_and (pe_cmpR (op_zinT (K := c.K)) (pv 1) (pe_tup (pa_cons pe_str (pa_cons pe_str pa_nil))) rfl) (pe_and (pe_cmpR (op_zeq (K := c.K) hu) (pe_callB (cr_len (K := c.K)) (by rfl) B.len_ PySem.boot_len (pa_cons (pv 2) pa_nil)) pe_int (nomark _)) (pe_and (pe_call D__law_is_client.ok (hr.mono (by first | decide | omega)) rfl D__law_is_client.at_ D__law_is_client.kp D__law_is_client.bd .nil pass0 (pa_cons (pe_ix (ix_z (K := c.K) (w := w)) (pv 2) pe_int (fun _ _ => rfl)) pa_nil)) (pe_one (pe_call D__law_is_int.ok (hr.mono (by first | decide | omega)) rfl D__law_is_int.at_ D__law_is_int.kp D__law_is_int.bd .nil pass0 (pa_cons (pe_ix (ix_z (K := c.K) (w := w)) (pv 2) pe_int (fun _ _ => rfl)) (pa_cons pe_int pa_nil)))))))))))))), body_run ok r k ?_⟩
  obtain ⟨-, d, rfl, hf, hP⟩ := hF
  cases d with
  | tuple ds =>
    cases ds with
    | nil =>
      walk_at "dl"
      exact fin hP rfl
    | cons x rr =>
      have hl0 : decide (((x :: rr).length : Int) = 0) = false := decide_eq_false (by rw [List.length_cons]; omega)
      walk_at "dl"
      refine ite_b (fun hb => ?_) (fun hb => ?_)
      · walk_at "dl"
        exact fin hP (edit_no (by cases x <;> first | rfl | (simp [isStr] at hb; done) | cases hb))
      · obtain ⟨w, rfl⟩ := str_of (d := x) (by simpa using hb)
        have hfr := fit_tail hf
        have hfx := (fit_tup.mp hfr).2
        walk_at "dl"
        refine ps_par2 ?_
        walk_at "dl"
        rw [cut_tail]
        refine ⟨_, _, rfl, ?_⟩
        walk_at "dl"
        refine ite_b (fun h1 => ?_) (fun h1 => ?_)
        · have h1' := of_decide_eq_true h1
          subst h1'
          walk_at "dl"
          refine o_eqE ?_
          refine fin hP ?_
          rw [edit_by (ps := []) rfl]
          cases rr <;> simp [allP]
        · have h1' := of_decide_eq_false h1
          walk_at "dl"
          refine o_inT ["put", "take"] rfl ?_
          walk_at "dl"
          refine ite_b (fun h2 => ?_) (fun h2 => ?_)
          · have h2' := of_decide_eq_true h2
            walk_at "dl"
            refine ite_b (fun h3 => ?_) (fun h3 => ?_)
            · obtain ⟨y, rfl⟩ := one_of_len (of_decide_eq_true h3)
              walk_at "dl"
              refine ite_b (fun h4 => ?_) (fun h4 => ?_)
              · have h4' := of_decide_eq_true h4
                subst h4'
                walk_at "dl"
                refine use_FJ (hfx y (by simp)) ?_
                exact fin hP (by rw [edit_by (ps := [isText]) rfl]; simp [allP])
              · have h4' := of_decide_eq_false h4
                have e : w = "take" := by
                  simp only [List.mem_cons, List.not_mem_nil, or_false] at h2'
                  exact h2'.resolve_left h4'
                subst e
                walk_at "dl"
                refine use_FJ (hfx y (by simp)) ?_
                exact fin hP (by rw [edit_by (ps := [isName]) rfl]; simp [allP])
            · have h3' := of_decide_eq_false h3
              refine fin hP ?_
              simp only [List.mem_cons, List.not_mem_nil, or_false] at h2'
              rcases h2' with rfl | rfl
              · rw [edit_by (ps := [isText]) rfl, allP_no (by simp; omega)]
              · rw [edit_by (ps := [isName]) rfl, allP_no (by simp; omega)]
          · have h2' := of_decide_eq_false h2
            walk_at "dl"
            refine ite_b (fun h3 => ?_) (fun h3 => ?_)
            · have h3' := of_decide_eq_true h3
              subst h3'
              walk_at "dl"
              refine ite_b (fun h4 => ?_) (fun h4 => ?_)
              · obtain ⟨y, z, u, rfl⟩ := three_of_len (of_decide_eq_true h4)
                have key : isEdit (.tuple [.str "splice", y, z, u]) = (isGe 0 y && isGe 0 z && isText u) := by
                  rw [edit_by (ps := [isCount, isCount, isText]) rfl, isGe_count, isGe_count]; simp [allP, Bool.and_assoc]
                walk_at "dl"
                refine ⟨rfl, y, 0, rfl, ?_⟩
                refine ⟨_, rfl, ?_⟩
                refine ite_b (fun h5 => ?_) (fun h5 => ?_)
                · walk_at "dl"
                  refine ⟨rfl, z, 0, rfl, ?_⟩
                  refine ⟨_, rfl, ?_⟩
                  refine ite_b (fun h6 => ?_) (fun h6 => ?_)
                  · walk_at "dl"
                    refine use_FJ (hfx u (by simp)) ?_
                    refine fin hP ?_
                    rw [key, show isGe 0 y = true from h5, show isGe 0 z = true from h6]; rfl
                  · refine fin hP ?_
                    rw [key, show isGe 0 z = false from h6]; simp
                · refine fin hP ?_
                  rw [key, show isGe 0 y = false from h5]; simp
              · have h4' := of_decide_eq_false h4
                exact fin hP (by rw [edit_by (ps := [isCount, isCount, isText]) rfl, allP_no (by simp; omega)])
            · have h3' := of_decide_eq_false h3
              walk_at "dl"
              refine o_inT ["adopt", "drop"] rfl ?_
              refine ⟨_, rfl, ?_⟩
              refine ite_b (fun h4 => ?_) (fun h4 => ?_)
              · have h4' := of_decide_eq_true h4
                have hk : editTests w = some [isClient, isNumber] := by
                  simp only [List.mem_cons, List.not_mem_nil, or_false] at h4'
                  rcases h4' with rfl | rfl <;> rfl
                walk_at "dl"
                refine ite_b (fun h5 => ?_) (fun h5 => ?_)
                · obtain ⟨y, z, rfl⟩ := two_of_len (of_decide_eq_true h5)
                  have key : isEdit (.tuple [.str w, y, z]) = (isClient y && isGe 1 z) := by
                    rw [edit_by hk, isGe_number]; simp [allP]
                  walk_at "dl"
                  refine use_FJ (hfx y (by simp)) ?_
                  refine ⟨_, rfl, ?_⟩
                  refine ite_b (fun h6 => ?_) (fun h6 => ?_)
                  · walk_at "dl"
                    refine ⟨rfl, z, 1, rfl, ?_⟩
                    refine fin hP ?_
                    rw [key, h6]; rfl
                  · refine fin hP ?_
                    rw [key, h6]; rfl
                · have h5' := of_decide_eq_false h5
                  exact fin hP (by rw [edit_by hk, allP_no (by simp; omega)])
              · have h4' := of_decide_eq_false h4
                exact fin hP (edit_none h1' h2' h3' h4')
  | _ =>
    walk_at "dl"
    exact fin hP rfl
theorem ok__law_is_sheet {f : Addr} {fd : FuncData} (F : Fun K "_law_is_sheet" "_law_is_sheet" s__law_is_sheet f fd)   (B : Blt mg) {f__law_is_int : Addr} {fd__law_is_int : FuncData} {ps__law_is_int : List Str} (D__law_is_int : L2.Def P w K mg base 1 "_law_is_int" f__law_is_int fd__law_is_int ps__law_is_int (SpF K F_is_int)) {f__law_is_name : Addr} {fd__law_is_name : FuncData} {ps__law_is_name : List Str} (D__law_is_name : L2.Def P w K mg base 1 "_law_is_name" f__law_is_name fd__law_is_name ps__law_is_name (SpF K (FJ fit isName))) {f__law_is_base : Addr} {fd__law_is_base : FuncData} {ps__law_is_base : List Str} (D__law_is_base : L2.Def P w K mg base 2 "_law_is_base" f__law_is_base fd__law_is_base ps__law_is_base (SpF K (FJ fit isBase))) {f__law_is_edit : Addr} {fd__law_is_edit : FuncData} {ps__law_is_edit : List Str} (D__law_is_edit : L2.Def P w K mg base 3 "_law_is_edit" f__law_is_edit fd__law_is_edit ps__law_is_edit (SpF K (FJ fit isEdit)))  : FnOk P w K mg base CX0 4 f fd ["_law_thing"] (SpF K (FJ fit isSheet)) := by
  refine F.ok sc__law_is_sheet (fun vs H Q E h => ?_) (fun cdv A outer s H vs Q E hr h => ?_)
  · exact lenF h fun c g es P h => h.1
  obtain ⟨c, I, g, es, P, rfl, ok, r, hF, k⟩ := h
  have nd := sc__law_is_sheet.nd
  have hu := hr.units
  have hu1 := hu_of hr
  refine ⟨_, (pss_cons (L2.ps_if (PW.pt (pw_or (pt_not (pt_val (pe_callB (cr_isi (K := c.K)) (by rfl) B.isinstance_ (by decide +kernel) (pa_cons (pv 0) (pa_cons (pe_bltn (v := .ty "tuple") (by rfl) B.tuple_ PyProof.Rows.boot_tuple rfl) pa_nil))))) (pw_or (pt_cmpR (op_zne (K := c.K) hu) (pe_callB (cr_len (K := c.K)) (by rfl) B.len_ PySem.boot_len (pa_cons (pv 0) pa_nil)) pe_int (nomark _)) (pw_or (pt_not (pt_val (pe_call D__law_is_int.ok (hr.mono (by first | decide | omega)) rfl D__law_is_int.at_ D__law_is_int.kp D__law_is_int.bd .nil pass0 (pa_cons (pe_ix (ix_z (K := c.K) (w := w)) (pv 0) pe_int (fun _ _ => rfl)) (pa_cons pe_int pa_nil))))) (pw_or1 (pt_not (pt_val (pe_call D__law_is_int.ok (hr.mono (by first | decide | omega)) rfl D__law_is_int.at_ D__law_is_int.kp D__law_is_int.bd .nil pass0 (pa_cons (pe_ix (ix_z (K := c.K) (w := w)) (pv 0) pe_int (fun _ _ => rfl)) (pa_cons pe_int pa_nil)))))))))) (pss_one (L2.ps_ret pe_bl)) pss_nil)
      (pss_cons (L2.ps_if (PW.pt (pw_or (pt_not (pt_val (pe_callB (cr_isi (K := c.K)) (by rfl) B.isinstance_ (by decide +kernel) (pa_cons (pe_ix (ix_z (K := c.K) (w := w)) (pv 0) pe_int (fun _ _ => rfl)) (pa_cons (pe_bltn (v := .ty "tuple") (by rfl) B.tuple_ PyProof.Rows.boot_tuple rfl) pa_nil))))) (pw_or1 (pt_not (pt_val (pe_callB (cr_allZ (K := c.K) rfl) (by rfl) B.all_ (by decide +kernel) (pa_cons (pe_lc (own := [("_law_row", 1)]) (g := gName 1) (tt := tYes) rfl nd (pi_tupZ (K := c.K) (pe_ix (ix_z (K := c.K) (w := w)) (pv 0) pe_int (fun _ _ => rfl))) (blkOk_by (N := ["_law_thing", "_law_row", "_law_first", "_law_k", "_law_number", "_law_name_here", "_law_base_here", "_law_edit_here"]) (sc := defScope s__law_is_sheet) (by decide +kernel)) (fun _ _ _ _ _ => pg_name (i := 1) nd rfl (Or.inl rfl)) (fun _ _ _ _ _ => pts_nil) (fun _ _ _ _ _ => (pe_and (pe_callB (cr_isi (K := c.K)) (by rfl) B.isinstance_ (by decide +kernel) (pa_cons (pv 1) (pa_cons (pe_bltn (v := .ty "tuple") (by rfl) B.tuple_ PyProof.Rows.boot_tuple rfl) pa_nil))) (pe_one (pe_cmpR (op_zeq (K := c.K) hu) (pe_callB (cr_len (K := c.K)) (by rfl) B.len_ PySem.boot_len (pa_cons (pv 1) pa_nil)) pe_int (nomark _)))))) pa_nil))))))) (pss_one (L2.ps_ret pe_bl)) pss_nil)
      (pss_cons (L2.ps_set (i := 2) nd rfl (by first | exact Or.inl rfl | exact Or.inr rfl | exact Or.inr (Or.inl rfl)) (pe_op (op_zadd (K := c.K)) (pe_op op_sub (pe_ix (ix_z (K := c.K) (w := w)) (pv 0) pe_int (fun _ _ => rfl)) (pe_callB (cr_len (K := c.K)) (by rfl) B.len_ PySem.boot_len (pa_cons (pe_ix (ix_z (K := c.K) (w := w)) (pv 0) pe_int (fun _ _ => rfl)) pa_nil))) pe_int))
      (pss_cons (L2.ps_for PassesOwn.never rfl (pi_range1 rfl B.range_ (pa_cons (pe_callB (cr_len (K := c.K)) (by rfl) B.len_ PySem.boot_len (pa_cons (pe_ix (ix_z (K := c.K) (w := w)) (pv 0) pe_int (fun _ _ => rfl)) pa_nil)) pa_nil)) (pg_name (i := 3) nd rfl (by first | exact Or.inl rfl | exact Or.inr rfl)) (pss_cons (ps_asg (pe_ix (ix_z (K := c.K) (w := w)) (pe_ix (ix_z (K := c.K) (w := w)) (pv 0) pe_int (fun _ _ => rfl)) (pv 3) (fun _ _ => rfl)) (pg_tupZ (n := 4) (K := c.K) rfl (pgs_cons (pg_name (i := 4) nd rfl (by first | exact Or.inl rfl | exact Or.inr rfl)) (pgs_cons (pg_name (i := 5) nd rfl (by first | exact Or.inl rfl | exact Or.inr rfl)) (pgs_cons (pg_name (i := 6) nd rfl (by first | exact Or.inl rfl | exact Or.inr rfl)) (pgs_cons (pg_name (i := 7) nd rfl (by first | exact Or.inl rfl | exact Or.inr rfl)) pgs_nil))))))
      (pss_cons (L2.ps_if (PW.pt (pw_or (pt_not (pt_val (pe_call D__law_is_int.ok (hr.mono (by first | decide | omega)) rfl D__law_is_int.at_ D__law_is_int.kp D__law_is_int.bd .nil pass0 (pa_cons (pv 4) (pa_cons pe_int pa_nil))))) (pw_or (pt_cmpR (op_zne (K := c.K) hu) (pv 4) (pe_op (op_zadd (K := c.K)) (pv 2) (pv 3)) (nomark _)) (pw_or1 (pt_not (pt_val (pe_call D__law_is_name.ok (hr.mono (by first | decide | omega)) rfl D__law_is_name.at_ D__law_is_name.kp D__law_is_name.bd .nil pass0 (pa_cons (pv 5) pa_nil)))))))) (pss_one (L2.ps_ret pe_bl)) pss_nil)
      (pss_one (L2.ps_if (PW.pt (pw_or (pt_not (pt_val (pe_call D__law_is_base.ok (hr.mono (by first | decide | omega)) rfl D__law_is_base.at_ D__law_is_base.kp D__law_is_base.bd .nil pass0 (pa_cons (pv 6) pa_nil)))) (pw_or1 (pt_not (pt_val (pe_call D__law_is_edit.ok (hr.mono (by first | decide | omega)) rfl D__law_is_edit.at_ D__law_is_edit.kp D__law_is_edit.bd .nil pass0 (pa_cons (pv 7) pa_nil))))))) (pss_one (L2.ps_ret pe_bl)) pss_nil)))))
      (pss_one (L2.ps_ret pe_bl)))))), body_run ok r k ?_⟩
  obtain ⟨-, d, rfl, hf, hP⟩ := hF
  cases d with
  | tuple ds =>
    walk_at "dl"
    refine ite_b (fun hb => ?_) (fun hb => ?_)
    · walk_at "dl"
      exact fin hP (sheet_not3 (d := .tuple ds) (by show decide ((ds.length : Int) = 3) = false; simpa using hb))
    · obtain ⟨b, n, p, rfl⟩ := three_of_len (r := ds) (by simpa using hb)
      have hfp : fit p = true := (fit_tup.mp hf).2 p (by simp)
      have hfn : fit n = true := (fit_tup.mp hf).2 n (by simp)
      walk_at "dl"
      refine ⟨rfl, b, 0, rfl, ?_⟩
      refine ⟨_, rfl, ?_⟩
      have key0 : isSheet (.tuple [b, n, p]) = (isGe 0 b && isGe 0 n && (areRows sheetTests 1 p && numsOk n p)) := by rw [isGe_count, isGe_count]; rfl
      refine ite_b (fun h1 => ?_) (fun h1 => ?_)
      · walk_at "dl"
        refine fin hP ?_
        have h1' : isGe 0 b = false := by simpa using h1
        rw [key0, h1']; rfl
      · have h1' : isGe 0 b = true := by simpa using h1
        walk_at "dl"
        refine ⟨rfl, n, 0, rfl, ?_⟩
        refine ⟨_, rfl, ?_⟩
        refine ite_b (fun h2 => ?_) (fun h2 => ?_)
        · walk_at "dl"
          refine fin hP ?_
          have h2' : isGe 0 n = false := by simpa using h2
          rw [key0, h2']; simp
        · have h2' : isGe 0 n = true := by simpa using h2
          obtain ⟨B, rfl, hB0⟩ : ∃ B, b = .int B ∧ 0 ≤ B := by
            cases b with
            | int B => exact ⟨B, rfl, of_decide_eq_true h1'⟩
            | _ => cases h1'
          obtain ⟨N, rfl, hN0⟩ : ∃ N, n = .int N ∧ 0 ≤ N := by
            cases n with
            | int N => exact ⟨N, rfl, of_decide_eq_true h2'⟩
            | _ => cases h2'
          have hN1 := fit_int.mp hfn
          walk_at "dl"
          refine ite_b (fun h3 => ?_) (fun h3 => ?_)
          · walk_at "dl"
            refine fin hP ?_
            rw [key0, rows_not (by simpa using h3)]; simp
          · obtain ⟨rows, rfl⟩ := tup_of (d := p) (by simpa using h3)
            have hz := (fit_tup.mp hfp).1
            walk_at "dl"
            refine ⟨by simp, hz, isTupN 4, fun x hx => ?_, ?_⟩
            · walk_at "dl"
              refine ite_b (fun h4 => ?_) (fun h4 => ?_)
              · obtain ⟨xs, rfl⟩ := tup_of h4
                walk_at "dl"
                exact ⟨rfl, rfl⟩
              · refine ⟨?_, rfl⟩
                cases x <;> first | rfl | cases h4
            · walk_at "dl"
              refine ite_b (fun h4 => ?_) (fun h4 => ?_)
              · walk_at "dl"
                refine fin hP ?_
                have h4' : rows.all (isTupN 4) = false := by simpa using h4
                cases e : isSheet (.tuple [.int B, .int N, .tuple rows]) with
                | false => rfl
                | true =>
                  have hr := rows_of_sheet e
                  have : rows.all (isTupN 4) = true := by
                    rw [List.all_eq_true]
                    intro x mx
                    obtain ⟨k, hk, rfl⟩ := List.getElem_of_mem mx
                    obtain ⟨nm, bs, ed, e2, _⟩ := rowOk_of (rowsOkAt_get hr k _ (List.getElem?_eq_getElem hk))
                    rw [e2]; rfl
                  rw [this] at h4'; cases h4'
              · have h4' : rows.all (isTupN 4) = true := by simpa using h4
                have no : ∀ (k : Nat) (d : PyData), rows[k]? = some d → rowOk (N - rows.length + 1 + k) d = false → isSheet (.tuple [.int B, .int N, .tuple rows]) = false := fun k d e h => by
                  cases e2 : isSheet (.tuple [.int B, .int N, .tuple rows]) with
                  | false => rfl
                  | true => rw [rowsOkAt_get (rows_of_sheet e2) k d e] at h; cases h
                walk_at "dl"
                refine Dl.ps_for (pit_rng1 ?_)
                walk_at "dl"
                refine ⟨by omega, by omega, fun i ρ2 g2 => ∃ e1 e3 e4 e5 e6 e7 : Option EV, ρ2 = [some (.d (.tuple [.int B, .int N, .tuple rows])), e1, some (.d (.int (N - rows.length + 1))), e3, e4, e5, e6, e7] ∧ g2 = g ∧ ∀ (j : Nat) (d : PyData), j < i → rows[j]? = some d → rowOk (N - rows.length + 1 + j) d = true,
                  ⟨none, none, none, none, none, none, rfl, rfl, fun j d h => absurd h (Nat.not_lt_zero _)⟩, ?_, ?_⟩
                · rintro i ρ2 g2 hi ⟨e1, e3, e4, e5, e6, e7, rfl, rfl, hj⟩
                  rw [Int.toNat_natCast] at hi
                  have hm : rows[i] ∈ rows := List.getElem_mem hi
                  have hgi := List.getElem?_eq_getElem hi
                  obtain ⟨m, nm, bs, ed, er⟩ : ∃ m nm bs ed, rows[i] = .tuple [m, nm, bs, ed] := by
                    have q := List.all_eq_true.mp h4' _ hm
                    revert q
                    generalize rows[i] = x
                    intro q
                    cases x with
                    | tuple xs =>
                      obtain ⟨a, b, c, d, rfl⟩ := four_of_len (r := xs) (of_decide_eq_true q)
                      exact ⟨a, b, c, d, rfl⟩
                    | _ => cases q
                  have hfr := (fit_tup.mp (er ▸ (fit_tup.mp hfp).2 _ hm)).2
                  refine Dl.ps_seq (ps_un4 ?_)
                  walk_at "dl"
                  refine o_ixT (d := .tuple [m, nm, bs, ed]) (by rw [Int.zero_add, ← er]; exact atI_nat hgi) ?_
                  refine ⟨_, _, _, _, rfl, ?_⟩
                  refine Dl.ps_seq ?_
                  walk_at "dl"
                  refine ⟨rfl, m, 1, rfl, ?_⟩
                  refine ⟨_, rfl, ?_⟩
                  refine ite_b (fun h5 => ?_) (fun h5 => ?_)
                  · walk_at "dl"
                    refine fin hP (no i _ hgi ?_)
                    rw [er]
                    have h5' : isGe 1 m = false := by simpa using h5
                    cases m with
                    | int z =>
                      have : decide (1 ≤ z) = false := h5'
                      simp only [rowOk, this, Bool.false_and]
                    | _ => rfl
                  · have h5' : isGe 1 m = true := by simpa using h5
                    obtain ⟨z, rfl, hz1⟩ : ∃ z, m = .int z ∧ 1 ≤ z := by
                      cases m with
                      | int z => exact ⟨z, rfl, of_decide_eq_true h5'⟩
                      | _ => cases h5'
                    walk_at "dl"
                    refine ite_b (fun h6 => ?_) (fun h6 => ?_)
                    · walk_at "dl"
                      refine fin hP (no i _ hgi ?_)
                      rw [er]
                      have h6' : ¬ z = N - rows.length + 1 + i := by
                        intro e; rw [e] at h6; simp at h6
                      simp only [rowOk, decide_eq_false h6', Bool.and_false, Bool.false_and]
                    · have h6' : z = N - rows.length + 1 + i := by
                        have := h6
                        simp at this
                        omega
                      walk_at "dl"
                      refine use_FJ (hfr nm (by simp)) ?_
                      refine ⟨_, rfl, ?_⟩
                      refine ite_b (fun h7 => ?_) (fun h7 => ?_)
                      · walk_at "dl"
                        refine fin hP (no i _ hgi ?_)
                        rw [er]
                        have h7' : isName nm = false := by simpa using h7
                        simp only [rowOk, h7', Bool.and_false, Bool.false_and]
                      · have h7' : isName nm = true := by simpa using h7
                        walk_at "dl"
                        refine use_FJ (hfr bs (by simp)) ?_
                        refine ⟨_, rfl, ?_⟩
                        refine ite_b (fun h8 => ?_) (fun h8 => ?_)
                        · walk_at "dl"
                          refine fin hP (no i _ hgi ?_)
                          rw [er]
                          have h8' : isBase bs = false := by simpa using h8
                          simp only [rowOk, h8', Bool.and_false, Bool.false_and]
                        · have h8' : isBase bs = true := by simpa using h8
                          walk_at "dl"
                          refine use_FJ (hfr ed (by simp)) ?_
                          refine ⟨_, rfl, ?_⟩
                          refine ite_b (fun h9 => ?_) (fun h9 => ?_)
                          · walk_at "dl"
                            refine fin hP (no i _ hgi ?_)
                            rw [er]
                            have h9' : isEdit ed = false := by simpa using h9
                            simp only [rowOk, h9', Bool.and_false]
                          · have h9' : isEdit ed = true := by simpa using h9
                            walk_at "dl"
                            refine ⟨_, _, _, _, _, _, rfl, rfl, fun j d hjl e => ?_⟩
                            by_cases hji : j < i
                            · exact hj j d hji e
                            · have : j = i := by omega
                              subst this
                              rw [hgi] at e
                              cases e
                              rw [er]
                              simp only [rowOk, decide_eq_true hz1, decide_eq_true h6', h7', h8', h9', Bool.and_true]
                · rintro ρ2 g2 ⟨e1, e3, e4, e5, e6, e7, rfl, rfl, hj⟩
                  walk_at "dl"
                  refine fin hP (sheet_of_rows hB0 hN0 hfp (rowsOkAt_of fun k d e => hj k d ?_ e))
                  rw [Int.toNat_natCast]
                  exact (List.getElem?_eq_some_iff.mp e).1
  | _ =>
    walk_at "dl"
    exact fin hP rfl
theorem ok__law_is_note {f : Addr} {fd : FuncData} (F : Fun K "_law_is_note" "_law_is_note" s__law_is_note f fd)   (B : Blt mg) {f__law_is_name : Addr} {fd__law_is_name : FuncData} {ps__law_is_name : List Str} (D__law_is_name : L2.Def P w K mg base 1 "_law_is_name" f__law_is_name fd__law_is_name ps__law_is_name (SpF K (FJ fit isName))) {f__law_is_base : Addr} {fd__law_is_base : FuncData} {ps__law_is_base : List Str} (D__law_is_base : L2.Def P w K mg base 2 "_law_is_base" f__law_is_base fd__law_is_base ps__law_is_base (SpF K (FJ fit isBase))) {f__law_is_edit : Addr} {fd__law_is_edit : FuncData} {ps__law_is_edit : List Str} (D__law_is_edit : L2.Def P w K mg base 3 "_law_is_edit" f__law_is_edit fd__law_is_edit ps__law_is_edit (SpF K (FJ fit isEdit))) {f__law_is_int : Addr} {fd__law_is_int : FuncData} {ps__law_is_int : List Str} (D__law_is_int : L2.Def P w K mg base 1 "_law_is_int" f__law_is_int fd__law_is_int ps__law_is_int (SpF K F_is_int)) {f__law_is_sheet : Addr} {fd__law_is_sheet : FuncData} {ps__law_is_sheet : List Str} (D__law_is_sheet : L2.Def P w K mg base 4 "_law_is_sheet" f__law_is_sheet fd__law_is_sheet ps__law_is_sheet (SpF K (FJ fit isSheet)))  : FnOk P w K mg base CX0 5 f fd ["_law_thing"] (SpF K (FJ fit isNote)) := by
  refine F.ok sc__law_is_note (fun vs H Q E h => ?_) (fun cdv A outer s H vs Q E hr h => ?_)
  · exact lenF h fun c g es P h => h.1
  obtain ⟨c, I, g, es, P, rfl, ok, r, hF, k⟩ := h
  have nd := sc__law_is_note.nd
  have hu := hr.units
  have hu1 := hu_of hr
  refine ⟨_, (pss_cons (L2.ps_if (PW.pt (pw_or (pt_not (pt_val (pe_callB (cr_isi (K := c.K)) (by rfl) B.isinstance_ (by decide +kernel) (pa_cons (pv 0) (pa_cons (pe_bltn (v := .ty "tuple") (by rfl) B.tuple_ PyProof.Rows.boot_tuple rfl) pa_nil))))) (pw_or (pt_cmpR (op_zeq (K := c.K) hu) (pe_callB (cr_len (K := c.K)) (by rfl) B.len_ PySem.boot_len (pa_cons (pv 0) pa_nil)) pe_int (nomark _)) (pw_or1 (pt_not (pt_val (pe_callB (cr_isi (K := c.K)) (by rfl) B.isinstance_ (by decide +kernel) (pa_cons (pe_ix (ix_z (K := c.K) (w := w)) (pv 0) pe_int (fun _ _ => rfl)) (pa_cons (pe_bltn (v := .ty "str") (by rfl) B.str_ PyProof.Rows.boot_str rfl) pa_nil))))))))) (pss_one (L2.ps_ret pe_bl)) pss_nil)
      (pss_cons (L2.ps_if (pt_cmpR (op_zeq (K := c.K) hu) (pe_ix (ix_z (K := c.K) (w := w)) (pv 0) pe_int (fun _ _ => rfl)) pe_str (nomark _)) (pss_one (L2.ps_ret (pe_cmpR (op_zeq (K := c.K) hu) (pe_callB (cr_len (K := c.K)) (by rfl) B.len_ PySem.boot_len (pa_cons (pv 0) pa_nil)) pe_int (nomark _)))) pss_nil)
      (pss_cons (L2.ps_if (pt_cmpR (op_zeq (K := c.K) hu) (pe_ix (ix_z (K := c.K) (w := w)) (pv 0) pe_int (fun _ _ => rfl)) pe_str (nomark _)) (pss_one (L2.ps_ret (pe_and (pe_cmpR (op_zeq (K := c.K) hu) (pe_callB (cr_len (K := c.K)) (by rfl) B.len_ PySem.boot_len (pa_cons (pv 0) pa_nil)) pe_int (nomark _)) (pe_and (pe_call D__law_is_name.ok (hr.mono (by first | decide | omega)) rfl D__law_is_name.at_ D__law_is_name.kp D__law_is_name.bd .nil pass0 (pa_cons (pe_ix (ix_z (K := c.K) (w := w)) (pv 0) pe_int (fun _ _ => rfl)) pa_nil)) (pe_and (pe_call D__law_is_base.ok (hr.mono (by first | decide | omega)) rfl D__law_is_base.at_ D__law_is_base.kp D__law_is_base.bd .nil pass0 (pa_cons (pe_ix (ix_z (K := c.K) (w := w)) (pv 0) pe_int (fun _ _ => rfl)) pa_nil)) (pe_one (pe_call D__law_is_edit.ok (hr.mono (by first | decide | omega)) rfl D__law_is_edit.at_ D__law_is_edit.kp D__law_is_edit.bd .nil pass0 (pa_cons (pe_ix (ix_z (K := c.K) (w := w)) (pv 0) pe_int (fun _ _ => rfl)) pa_nil)))))))) pss_nil)
      (pss_cons (L2.ps_if (pt_cmpR (op_zeq (K := c.K) hu) (pe_ix (ix_z (K := c.K) (w := w)) (pv 0) pe_int (fun _ _ => rfl)) pe_str (nomark _)) (pss_one (L2.ps_ret (pe_and (pe_cmpR (op_zeq (K := c.K) hu) (pe_callB (cr_len (K := c.K)) (by rfl) B.len_ PySem.boot_len (pa_cons (pv 0) pa_nil)) pe_int (nomark _)) (pe_one (pe_call D__law_is_int.ok (hr.mono (by first | decide | omega)) rfl D__law_is_int.at_ D__law_is_int.kp D__law_is_int.bd .nil pass0 (pa_cons (pe_ix (ix_z (K := c.K) (w := w)) (pv 0) pe_int (fun _ _ => rfl)) (pa_cons pe_int pa_nil))))))) pss_nil)
      (pss_one (L2.ps_ret (pe_and (pe_cmpR (op_zeq (K := c.K) hu) (pe_ix (ix_z (K := c.K) (w := w)) (pv 0) pe_int (fun _ _ => rfl)) pe_str (nomark _)) (pe_and (pe_cmpR (op_zeq (K := c.K) hu) (pe_callB (cr_len (K := c.K)) (by rfl) B.len_ PySem.boot_len (pa_cons (pv 0) pa_nil)) pe_int (nomark _)) (pe_one (pe_call D__law_is_sheet.ok (hr.mono (by first | decide | omega)) rfl D__law_is_sheet.at_ D__law_is_sheet.kp D__law_is_sheet.bd .nil pass0 (pa_cons (pe_ix (ix_z (K := c.K) (w := w)) (pv 0) pe_int (fun _ _ => rfl)) pa_nil))))))))))), body_run ok r k ?_⟩
  obtain ⟨-, d, rfl, hf, hP⟩ := hF
  cases d with
  | tuple ds =>
    cases ds with
    | nil =>
      walk_at "dl"
      exact fin hP rfl
    | cons x rr =>
      walk_at "dl"
      refine ite_b (fun hb => ?_) (fun hb => ?_)
      · walk_at "dl"
        exact fin hP (note_no (by cases x <;> first | rfl | (simp [isStr] at hb; done) | cases hb))
      · obtain ⟨w, rfl⟩ := str_of (d := x) (by simpa using hb)
        have hfx := (fit_tup.mp (fit_tail hf)).2
        walk_at "dl"
        refine ite_b (fun h1 => ?_) (fun h1 => ?_)
        · have h1' := of_decide_eq_true h1
          subst h1'
          walk_at "dl"
          refine fin hP ?_
          rw [note_by (ps := []) rfl]
          cases rr with
          | nil => rfl
          | cons y ys =>
            rw [allP_no (by simp)]
            exact (decide_eq_false (by rw [List.length_cons, List.length_cons]; omega)).symm
        · have h1' := of_decide_eq_false h1
          walk_at "dl"
          refine ite_b (fun h2 => ?_) (fun h2 => ?_)
          · have h2' := of_decide_eq_true h2
            subst h2'
            walk_at "dl"
            refine ite_b (fun h3 => ?_) (fun h3 => ?_)
            · obtain ⟨y, z, u, rfl⟩ := three_of_len (r := rr) (by have := of_decide_eq_true h3; rw [List.length_cons] at this; omega)
              have key : isNote (.tuple [.str "write", y, z, u]) = (isName y && isBase z && isEdit u) := by
                rw [note_by (ps := [isName, isBase, isEdit]) rfl]; simp [allP, Bool.and_assoc]
              walk_at "dl"
              refine use_FJ (hfx y (by simp)) ?_
              refine ⟨_, rfl, ?_⟩
              refine ite_b (fun h5 => ?_) (fun h5 => ?_)
              · walk_at "dl"
                refine use_FJ (hfx z (by simp)) ?_
                refine ⟨_, rfl, ?_⟩
                refine ite_b (fun h6 => ?_) (fun h6 => ?_)
                · walk_at "dl"
                  refine use_FJ (hfx u (by simp)) ?_
                  refine fin hP ?_
                  rw [key, h5, h6]; rfl
                · refine fin hP ?_
                  rw [key, h6]; simp
              · refine fin hP ?_
                rw [key, h5]; simp
            · have h3' := of_decide_eq_false h3
              exact fin hP (by rw [note_by (ps := [isName, isBase, isEdit]) rfl, allP_no (by intro e; apply h3'; rw [List.length_cons, e]; rfl)])
          · have h2' := of_decide_eq_false h2
            walk_at "dl"
            refine ite_b (fun h3 => ?_) (fun h3 => ?_)
            · have h3' := of_decide_eq_true h3
              subst h3'
              walk_at "dl"
              refine ite_b (fun h4 => ?_) (fun h4 => ?_)
              · obtain ⟨y, rfl⟩ := one_of_len (r := rr) (by have := of_decide_eq_true h4; rw [List.length_cons] at this; omega)
                walk_at "dl"
                refine ⟨rfl, y, 1, rfl, ?_⟩
                refine fin hP ?_
                rw [note_by (ps := [isNumber]) rfl, ← funext isGe_number]; simp [allP]
              · have h4' := of_decide_eq_false h4
                exact fin hP (by rw [note_by (ps := [isNumber]) rfl, allP_no (by intro e; apply h4'; rw [List.length_cons, e]; rfl)])
            · have h3' := of_decide_eq_false h3
              walk_at "dl"
              refine ite_b (fun h4 => ?_) (fun h4 => ?_)
              · have h4' := of_decide_eq_true h4
                subst h4'
                walk_at "dl"
                refine ite_b (fun h5 => ?_) (fun h5 => ?_)
                · obtain ⟨y, rfl⟩ := one_of_len (r := rr) (by have := of_decide_eq_true h5; rw [List.length_cons] at this; omega)
                  walk_at "dl"
                  refine use_FJ (hfx y (by simp)) ?_
                  refine fin hP ?_
                  rw [note_by (ps := [isSheet]) rfl]; simp [allP]
                · have h5' := of_decide_eq_false h5
                  exact fin hP (by rw [note_by (ps := [isSheet]) rfl, allP_no (by intro e; apply h5'; rw [List.length_cons, e]; rfl)])
              · have h4' := of_decide_eq_false h4
                exact fin hP (note_none h1' h2' h3' h4')
  | _ =>
    walk_at "dl"
    exact fin hP rfl
theorem ok__law_behind {f : Addr} {fd : FuncData} (F : Fun K "_law_behind" "_law_behind" s__law_behind f fd)     : FnOk P w K mg base CX0 1 f fd ["_law_sheet_here", "_law_deed"] (SpF K F_behindS) := by
  refine F.ok sc__law_behind (fun vs H Q E h => ?_) (fun cdv A outer s H vs Q E hr h => ?_)
  · exact lenF h fun c g es P h => h.1
  obtain ⟨c, I, g, es, P, rfl, ok, r, hF, k⟩ := h
  have nd := sc__law_behind.nd
  have hu := hr.units
  have hu1 := hu_of hr
  refine ⟨_, (pss_cons (ps_asg (pv 0) (pg_tupZ (n := 3) (K := c.K) rfl (pgs_cons (pg_name (i := 2) nd rfl (by first | exact Or.inl rfl | exact Or.inr rfl)) (pgs_cons (pg_name (i := 3) nd rfl (by first | exact Or.inl rfl | exact Or.inr rfl)) (pgs_cons (pg_name (i := 4) nd rfl (by first | exact Or.inl rfl | exact Or.inr rfl)) pgs_nil)))))
      (pss_cons (L2.ps_if (pt_cmpR (op_zeq (K := c.K) hu) (pe_ix (ix_z (K := c.K) (w := w)) (pv 1) pe_int (fun _ _ => rfl)) pe_str (nomark _)) (pss_one (L2.ps_ret (pe_tup (pa_cons (pe_op (op_zadd (K := c.K)) (pv 2) pe_int) (pa_cons (pv 3) (pa_cons (pv 4) pa_nil)))))) pss_nil)
      (pss_cons (L2.ps_if (pt_cmpR (op_zeq (K := c.K) hu) (pe_ix (ix_z (K := c.K) (w := w)) (pv 1) pe_int (fun _ _ => rfl)) pe_str (nomark _)) (pss_one (L2.ps_ret (pe_tup (pa_cons (pv 2) (pa_cons (pe_op (op_zadd (K := c.K)) (pv 3) pe_int) (pa_cons (pe_op (op_zadd (K := c.K)) (pv 4) (pe_tup (pa_cons (pe_op (op_zadd (K := c.K)) (pe_tup (pa_cons (pe_op (op_zadd (K := c.K)) (pv 3) pe_int) pa_nil)) (pe_slice (sl_z (K := c.K)) (pv 1) (po_some pe_int) po_none)) pa_nil))) pa_nil)))))) pss_nil)
      (pss_cons (L2.ps_if (pt_cmpR (op_zeq (K := c.K) hu) (pe_ix (ix_z (K := c.K) (w := w)) (pv 1) pe_int (fun _ _ => rfl)) pe_str (nomark _)) (pss_one (L2.ps_ret (pe_ifExp (PW.pt (pw_and (pt_cmpR (op_zneE (K := c.K) hu) (pv 4) (pe_tup pa_nil) (nomark _)) (pw_and1 (pt_cmpR (op_zeq (K := c.K) hu) (pe_ix (ix_z (K := c.K) (w := w)) (pe_ix (ix_z (K := c.K) (w := w)) (pv 4) pe_int (fun _ _ => rfl)) pe_int (fun _ _ => rfl)) (pe_ix (ix_z (K := c.K) (w := w)) (pv 1) pe_int (fun _ _ => rfl)) (nomark _))))) (pe_tup (pa_cons (pv 2) (pa_cons (pv 3) (pa_cons (pe_slice (sl_z (K := c.K)) (pv 4) (po_some pe_int) po_none) pa_nil)))) (pv 0)))) pss_nil)
      (pss_one (L2.ps_ret (pe_ix (ix_z (K := c.K) (w := w)) (pv 1) pe_int (fun _ _ => rfl)))))))), body_run ok r k ?_⟩
  obtain ⟨-, sh, d, rfl, hs, hn, hfs, hP⟩ := hF
  obtain ⟨b, n, p, rfl, hrow⟩ := sheet_of hs
  obtain ⟨z, rest, rfl, hl, hset, hne⟩ := note_of hn
  have hp : p.length ≤ 1000000 := (fit_tup.mp ((fit_tup.mp hfs).2 _ (by simp))).1
  have hP' : P (.d (rawNoted b n p z rest)) g := hP
  refine Dl.ps_seq (ps_un3 ?_)
  walk_at "dl"
  refine ⟨_, _, _, rfl, ?_⟩
  walk_at "dl"
  refine ite_b (fun h1 => ?_) (fun h1 => ?_)
  · walk_at "dl"
    exact fin' hP' (by unfold rawNoted; rw [if_pos (of_decide_eq_true h1)])
  · have n1 := of_decide_eq_false h1
    walk_at "dl"
    refine ite_b (fun h2 => ?_) (fun h2 => ?_)
    · walk_at "dl"
      rw [cut_tail]
      refine o_addT (by show 1 + rest.length ≤ sizeLine; exact le_line (by omega)) ?_
      walk_at "dl"
      refine o_addT (by show p.length + 1 ≤ sizeLine; exact Nat.succ_le_of_lt (lt_line hp)) ?_
      walk_at "dl"
      exact fin' hP' (by unfold rawNoted; rw [if_neg n1, if_pos (of_decide_eq_true h2)]; rfl)
    · have n2 := of_decide_eq_false h2
      walk_at "dl"
      refine ite_b (fun h3 => ?_) (fun h3 => ?_)
      · have e3 := of_decide_eq_true h3
        obtain ⟨k', rfl⟩ := hset e3
        have key : rawNoted b n p z [.int k'] = .tuple [.int b, .int n, .tuple (if settles p [.int k'] then p.drop 1 else p)] := by unfold rawNoted; rw [if_neg n1, if_neg n2, if_pos e3]
        rw [key] at hP'
        walk_at "dl"
        refine o_neE ?_
        refine ⟨_, rfl, ?_⟩
        cases p with
        | nil =>
          refine ite_f rfl ?_
          walk_at "dl"
          exact hP'
        | cons x xs =>
          obtain ⟨i, ys, rfl⟩ := hrow _ List.mem_cons_self
          refine ite_t rfl ?_
          walk_at "dl"
          refine ite_b (fun h4 => ?_) (fun h4 => ?_)
          · walk_at "dl"
            rw [cut_tail]
            have : settles (.tuple (.int i :: ys) :: xs) [.int k'] = true := h4
            rw [this] at hP'
            exact hP'
          · walk_at "dl"
            have : settles (.tuple (.int i :: ys) :: xs) [.int k'] = false := h4
            rw [this] at hP'
            exact hP'
      · have n3 := of_decide_eq_false h3
        have hz : z ≠ "boot" := n1
        cases rest with
        | nil => exact absurd rfl (hne hz)
        | cons y ys =>
          walk_at "dl"
          exact fin' hP' (by unfold rawNoted; rw [if_neg n1, if_neg n2, if_neg n3]; rfl)
theorem ok__law_flag {f : Addr} {fd : FuncData} (F : Fun K "_law_flag" "_law_flag" s__law_flag f fd)   (B : Blt mg)  : FnOk P w K mg base CX0 1 f fd ["_law_told", "_law_due"] (SpF K F_flag) := by
  refine F.ok sc__law_flag (fun vs H Q E h => ?_) (fun cdv A outer s H vs Q E hr h => ?_)
  · exact lenF h fun c g es P h => h.1
  obtain ⟨c, I, g, es, P, rfl, ok, r, hF, k⟩ := h
  have nd := sc__law_flag.nd
  have hu := hr.units
  have hu1 := hu_of hr
  refine ⟨_, (pss_one (L2.ps_ret (pe_and (pe_callB (cr_isi (K := c.K)) (by rfl) B.isinstance_ (by decide +kernel) (pa_cons (pv 0) (pa_cons (pe_bltn (v := .ty "bool") (by rfl) B.bool_ PyProof.Rows.boot_bool rfl) pa_nil))) (pe_one (pe_cmpR (op_zeq (K := c.K) hu) (pv 0) (pv 1) (nomark _)))))), body_run ok r k ?_⟩
  obtain ⟨-, a, b, rfl, hP⟩ := hF
  walk_at "dl"
  exact hP
theorem ok__law_is0 {f : Addr} {fd : FuncData} (F : Fun K "_law_is" "_law_is" s__law_is f fd) : FnOk P w K mg base CX0 1 f fd ["_law_told", "_law_due"] (SpF K (F_isS 0)) := by
  refine F.ok sc__law_is (fun vs H Q E h => ?_) (fun cdv A outer s H vs Q E hr h => ?_)
  · exact lenF h fun c g es P h => h.1
  · obtain ⟨c, I, g, es, P, rfl, ok, r, ⟨-, d, -, -, -, hd, -⟩, k⟩ := h
    exact absurd hd (Nat.not_lt_zero _)
theorem ok__law_is {f : Addr} {fd : FuncData} (F : Fun K "_law_is" "_law_is" s__law_is f fd)  {k0 : Nat} (B : Blt mg) {f__law_is : Addr} {fd__law_is : FuncData} {ps__law_is : List Str} (D__law_is : L2.Def P w K mg base (k0+1) "_law_is" f__law_is fd__law_is ps__law_is (SpF K (F_isS k0)))  : FnOk P w K mg base CX0 (k0+2) f fd ["_law_told", "_law_due"] (SpF K (F_isS (k0+1))) := by
  refine F.ok sc__law_is (fun vs H Q E h => ?_) (fun cdv A outer s H vs Q E hr h => ?_)
  · exact lenF h fun c g es P h => h.1
  obtain ⟨c, I, g, es, P, rfl, ok, r, hF, k⟩ := h
  have nd := sc__law_is.nd
  have hu := hr.units
  have hu1 := hu_of hr
  refine ⟨_, (pss_cons (L2.ps_if (pt_val (pe_callB (cr_isiT (K := c.K)) (by rfl) B.isinstance_ (by decide +kernel) (pa_cons (pv 1) (pa_cons (pe_tup (pa_cons (pe_bltn (v := .ty "tuple") (by rfl) B.tuple_ PyProof.Rows.boot_tuple rfl) (pa_cons (pe_bltn (v := .ty "list") (by rfl) B.list_ PyProof.Rows.boot_list rfl) pa_nil))) pa_nil)))) (pss_cons (L2.ps_if (PW.pt (pw_or (pt_cmpR (op_zne (K := c.K) hu) (pe_callB (cr_isi (K := c.K)) (by rfl) B.isinstance_ (by decide +kernel) (pa_cons (pv 0) (pa_cons (pe_bltn (v := .ty "tuple") (by rfl) B.tuple_ PyProof.Rows.boot_tuple rfl) pa_nil))) (pe_callB (cr_isi (K := c.K)) (by rfl) B.isinstance_ (by decide +kernel) (pa_cons (pv 1) (pa_cons (pe_bltn (v := .ty "tuple") (by rfl) B.tuple_ PyProof.Rows.boot_tuple rfl) pa_nil))) (nomark _)) (pw_or1 (pt_cmpR (op_zne (K := c.K) hu) (pe_callB (cr_isi (K := c.K)) (by rfl) B.isinstance_ (by decide +kernel) (pa_cons (pv 0) (pa_cons (pe_bltn (v := .ty "list") (by rfl) B.list_ PyProof.Rows.boot_list rfl) pa_nil))) (pe_callB (cr_isi (K := c.K)) (by rfl) B.isinstance_ (by decide +kernel) (pa_cons (pv 1) (pa_cons (pe_bltn (v := .ty "list") (by rfl) B.list_ PyProof.Rows.boot_list rfl) pa_nil))) (nomark _))))) (pss_one (L2.ps_ret pe_bl)) pss_nil)
      (pss_one (L2.ps_ret (pe_and (pe_cmpR (op_zeq (K := c.K) hu) (pe_callB (cr_len (K := c.K)) (by rfl) B.len_ PySem.boot_len (pa_cons (pv 0) pa_nil)) (pe_callB (cr_len (K := c.K)) (by rfl) B.len_ PySem.boot_len (pa_cons (pv 1) pa_nil)) (nomark _)) (pe_one (pe_callB (cr_allZ (K := c.K) rfl) (by rfl) B.all_ (by decide +kernel) (pa_cons (pe_lc (own := [("_law_k", 2)]) (g := gName 2) (tt := tYes) rfl nd (pi_range1 rfl B.range_ (pa_cons (pe_callB (cr_len (K := c.K)) (by rfl) B.len_ PySem.boot_len (pa_cons (pv 1) pa_nil)) pa_nil)) (blkOk_by (N := ["_law_told", "_law_due", "_law_k"]) (sc := defScope s__law_is) (by decide +kernel)) (fun _ _ _ _ _ => pg_name (i := 2) nd rfl (Or.inl rfl)) (fun _ _ _ _ _ => pts_nil) (fun _ _ _ _ _ => (pe_call D__law_is.ok (hr.mono (by first | decide | omega)) rfl D__law_is.at_ D__law_is.kp D__law_is.bd .nil pass0 (pa_cons (pe_ix (ix_z (K := c.K) (w := w)) (pv 0) (pv 2) (fun _ _ => rfl)) (pa_cons (pe_ix (ix_z (K := c.K) (w := w)) (pv 1) (pv 2) (fun _ _ => rfl)) pa_nil))))) pa_nil))))))) pss_nil)
      (pss_one (L2.ps_ret (pe_and (pe_cmpR (op_zeq (K := c.K) hu) (pe_callB (cr_isi (K := c.K)) (by rfl) B.isinstance_ (by decide +kernel) (pa_cons (pv 0) (pa_cons (pe_bltn (v := .ty "bool") (by rfl) B.bool_ PyProof.Rows.boot_bool rfl) pa_nil))) (pe_callB (cr_isi (K := c.K)) (by rfl) B.isinstance_ (by decide +kernel) (pa_cons (pv 1) (pa_cons (pe_bltn (v := .ty "bool") (by rfl) B.bool_ PyProof.Rows.boot_bool rfl) pa_nil))) (nomark _)) (pe_one (pe_cmpR (op_zeq (K := c.K) hu) (pv 0) (pv 1) (nomark _))))))), body_run ok r k ?_⟩
  obtain ⟨-, d, rfl, hf, hnd, hd, hP⟩ := hF
  refine Dl.ps_seq (Dl.ps_if (pb_test' (pv_isi2 ?_)))
  walk_at "dl"
  refine ⟨_, _, _, rfl, isT_tuple d, isT_list d, _, rfl, ?_⟩
  have sc0 : ∀ x : PyData, PyData.eqv x x = true → P (.d (.bool (PyData.eqv x x))) g → P (.d (.bool true)) g := fun x e h => by rw [e] at h; exact h
  cases d with
  | tuple ds =>
    walk_at "dl"
    refine ite_t (by simp) ?_
    walk_at "dl"
    refine ⟨_, _, rfl, rfl, by simp, by have := (fit_tup.mp hf).1; omega, by omega, fun _ => true, fun i hi => ?_, fin hP (by simp)⟩
    have hi' : i < ds.length := by omega
    have e : atI ds (i : Int) = some ds[i] := atI_nat (List.getElem?_eq_getElem hi')
    have hm : ds[i] ∈ ds := List.getElem_mem hi'
    walk_at "dl"
    refine o_ixT e ?_
    walk_at "dl"
    refine o_ixT e ?_
    walk_at "dl"
    refine ⟨rfl, ds[i], rfl, (fit_tup.mp hf).2 _ hm, noD_tup.mp hnd _ hm, ?_, rfl, rfl⟩
    have h1 : (ds[i]).depth ≤ PyData.depthAll ds := depth_mem hm
    simp only [PyData.depth] at hd
    omega
  | list ds =>
    walk_at "dl"
    refine ite_t (by simp) ?_
    walk_at "dl"
    refine ⟨_, _, rfl, rfl, by simp, by have := (fit_lst.mp hf).1; omega, by omega, fun _ => true, fun i hi => ?_, fin hP (by simp)⟩
    have hi' : i < ds.length := by omega
    have e : atI ds (i : Int) = some ds[i] := atI_nat (List.getElem?_eq_getElem hi')
    have hm : ds[i] ∈ ds := List.getElem_mem hi'
    walk_at "dl"
    refine o_ixL e ?_
    walk_at "dl"
    refine o_ixL e ?_
    walk_at "dl"
    refine ⟨rfl, ds[i], rfl, (fit_lst.mp hf).2 _ hm, noD_lst.mp hnd _ hm, ?_, rfl, rfl⟩
    have h1 : (ds[i]).depth ≤ PyData.depthAll ds := depth_mem hm
    simp only [PyData.depth] at hd
    omega
  | none =>
    walk_at "dl"
    refine o_eq rfl rfl (by simp [PyData.canLay0]) (by simp [PyData.canLay0]) (by simp [PyData.depth]) (by simp [PyData.depth]) ?_
    exact hP
  | dict kvs => rw [noD] at hnd; cases hnd
  | _ =>
    walk_at "dl"
    exact fin hP (by simp)
theorem ok__law_word {f : Addr} {fd : FuncData} (F : Fun K "_law_word" "_law_word" s__law_word f fd)   (B : Blt mg) {C_LeaseError : Addr} (X_LeaseError : ExcD K mg "LeaseError" C_LeaseError) {C_NoSheet : Addr} (X_NoSheet : ExcD K mg "NoSheet" C_NoSheet) {C_NoNote : Addr} (X_NoNote : ExcD K mg "NoNote" C_NoNote) {f_noted_behind : Addr} {fd_noted_behind : FuncData} {ps_noted_behind : List Str} (D_noted_behind : DefX P w K mg base 11 "noted_behind" f_noted_behind fd_noted_behind ps_noted_behind (SpX K (F_noted_behindX C_NoSheet C_NoNote))) (G1 : ErrF K C_LeaseError C_NoSheet) (G2 : ErrF K C_LeaseError C_NoNote) (N1 : PySem.W.kitOne K (.ref C_NoSheet) (.ref C_NoNote) = some false) (N2 : PySem.W.kitOne K (.ref C_NoNote) (.ref C_NoSheet) = some false) : FnOk P w K mg base CX0 12 f fd ["_law_sheet_here", "_law_deed"] (SpF K F_word) := by
  refine F.ok sc__law_word (fun vs H Q E h => ?_) (fun cdv A outer s H vs Q E hr h => ?_)
  · exact lenF h fun c g es P h => h.1
  obtain ⟨c, I, g, es, P, rfl, ok, r, hF, k⟩ := h
  have nd := sc__law_word.nd
  have hu := hr.units
  have hu1 := hu_of hr
  have hu6 := hu65 hr
  refine ⟨_, (pss_cons (ps_try_asK (K := c.K) (i := 3) rfl rfl nd rfl rfl ⟨rfl, by decide, .inl X_LeaseError.at_⟩ (fun W pn xe tk _ => (pss_one (L2.ps_set (i := 2) nd rfl (by first | exact Or.inl rfl | exact Or.inr rfl | exact Or.inr (Or.inl rfl)) (pe_tup (pa_cons pe_str (pa_cons (pe_callS D_noted_behind.ok (hr.mono (by first | decide | omega)) rfl D_noted_behind.at_ D_noted_behind.kp D_noted_behind.bd (fun σ => passAt tk σ) (pa_cons (pv 0) (pa_cons (pv 1) pa_nil))) pa_nil)))))) (fun a oe cls d pn hz hf => (pss_cons (L2.ps_set (i := 4) nd rfl (by first | exact Or.inl rfl | exact Or.inr rfl | exact Or.inr (Or.inl rfl)) (pe_lst (pa_cons (pe_callB (call_isEX (K := c.K) hz hf) (by rfl) B.isinstance_ (by decide +kernel) (pa_cons (pv 3) (pa_cons (pe_glob (v := .ref C_NoSheet) (by rfl) X_NoSheet.at_ rfl) pa_nil))) (pa_cons (pe_callB (call_isEX (K := c.K) hz hf) (by rfl) B.isinstance_ (by decide +kernel) (pa_cons (pv 3) (pa_cons (pe_glob (v := .ref C_NoNote) (by rfl) X_NoNote.at_ rfl) pa_nil))) pa_nil))))
      (pss_cons (L2.ps_set (i := 2) nd rfl (by first | exact Or.inl rfl | exact Or.inr rfl | exact Or.inr (Or.inl rfl)) (pe_tup (pa_cons pe_str pa_nil)))
      (pss_one (L2.ps_if (PW.pt (pw_and (pt_cmpR (op_zeq (K := c.K) hu) (pe_bmK (K := c.K) PySem.F.plainAttrs_list PySem.F.slot_list_count PySem.F.type_list_count (mt_countD (K := c.K) hu6) (pv 4) (pa_cons pe_bl pa_nil)) pe_int (nomark _)) (pw_and1 (pt_val (pe_callB (call_isEX (K := c.K) hz hf) (by rfl) B.isinstance_ (by decide +kernel) (pa_cons (pv 3) (pa_cons (pe_bltn (v := .ty "ValueError") (by rfl) B.ValueError_ (by decide +kernel) rfl) pa_nil))))))) (pss_one (L2.ps_set (i := 2) nd rfl (by first | exact Or.inl rfl | exact Or.inr rfl | exact Or.inr (Or.inl rfl)) (pe_tup (pa_cons (pe_ix (ix_z (K := c.K) (w := w)) (pe_lst (pa_cons pe_str (pa_cons pe_str pa_nil))) (pe_bmK (K := c.K) PySem.F.plainAttrs_list PySem.F.slot_list_index PySem.F.type_list_index (mt_indexZ (K := c.K) hu6) (pv 4) (pa_cons pe_bl pa_nil)) (fun _ _ => rfl)) pa_nil)))) pss_nil))))))
      (pss_one (L2.ps_ret (pv 2)))), body_run ok r k ?_⟩
  obtain ⟨-, sh, d, rfl, hfs, hfd, hP⟩ := hF
  refine Dl.ps_seq (ps_tryAs (R := fun cls ρ1 g1 => g1 = g ∧ ρ1 = [some (.d sh), some (.d d), none, none, none] ∧ ((cls = .ref C_NoSheet ∧ isSheet sh = false) ∨ (cls = .ref C_NoNote ∧ isSheet sh = true ∧ isNote d = false))) (fun W => ?_) ?_)
  · refine psx_set (pvx_tup (pasx_cons (pvx_lift ?_)))
    walk_at "dl"
    refine pasx_cons (pvx_call ?_)
    walk_at "dl"
    refine ⟨rfl, sh, d, rfl, hfs, hfd, fun h => ⟨rfl, rfl, .inl ⟨rfl, h⟩⟩, fun h1 h2 => ⟨rfl, rfl, .inr ⟨rfl, h1, h2⟩⟩, fun h1 h2 => ?_⟩
    refine pasx_nil ⟨_, rfl, le_line (by simp), ?_⟩
    walk_at "dl"
    exact fin' hP (by unfold wordD; rw [if_pos h1, if_pos h2])
  · rintro cls ρ1 g1 ⟨rfl, rfl, h⟩
    rcases h with ⟨rfl, h1⟩ | ⟨rfl, h1, h2⟩
    · refine ⟨G1.exm, fun a => ?_⟩
      refine Dl.ps_seq (Dl.ps_set ?_)
      refine pv_lst2 ?_
      walk_at "dl"
      refine oc_isE X_NoSheet.is_ (fun _ h => h) G1.self ?_
      walk_at "dl"
      refine oc_isE X_NoSheet.is_ (fun _ h => h) N1 ?_
      walk_at "dl"
      refine pv_countD ?_
      walk_at "dl"
      refine ⟨by decide +kernel, by decide +kernel, by decide +kernel, by decide +kernel, ?_⟩
      walk_at "dl"
      refine oc_isE X_NoSheet.is_ (fun _ h => h) G1.ve ?_
      walk_at "dl"
      refine pv_indexD ?_
      walk_at "dl"
      refine ⟨.bool true, .bool true, 0, rfl, by decide +kernel, by decide +kernel, by decide +kernel, by decide +kernel, rfl, by decide +kernel, fun m z' h => absurd h (Nat.not_lt_zero _), ?_⟩
      refine o_ixL at0 ?_
      walk_at "dl"
      exact fin' hP (by unfold wordD; rw [if_neg (by rw [h1]; decide)])
    · refine ⟨G2.exm, fun a => ?_⟩
      refine Dl.ps_seq (Dl.ps_set ?_)
      refine pv_lst2 ?_
      walk_at "dl"
      refine oc_isE X_NoNote.is_ (fun _ h => h) N2 ?_
      walk_at "dl"
      refine oc_isE X_NoNote.is_ (fun _ h => h) G2.self ?_
      walk_at "dl"
      refine pv_countD ?_
      walk_at "dl"
      refine ⟨by decide +kernel, by decide +kernel, by decide +kernel, by decide +kernel, ?_⟩
      walk_at "dl"
      refine oc_isE X_NoNote.is_ (fun _ h => h) G2.ve ?_
      walk_at "dl"
      refine pv_indexD ?_
      walk_at "dl"
      refine ⟨.bool true, .bool true, 1, rfl, by decide +kernel, by decide +kernel, by decide +kernel, by decide +kernel, rfl, by decide +kernel, fun m z' h e => ?_, ?_⟩
      · have : m = 0 := by omega
        subst this
        cases e
        decide +kernel
      refine o_ixL at1 ?_
      walk_at "dl"
      exact fin' hP (by unfold wordD; rw [if_pos h1, if_neg (by rw [h2]; decide)])
end Pr
set_option Elab.async false
set_option linter.all false
set_option autoImplicit false
set_option maxRecDepth 100000
set_option maxHeartbeats 4000000
set_option pp.maxSteps 500
namespace Pr
open PySem PySem.Spec PyProof.Rows L2 Dl
local macro_rules | `(tactic| walk_at "ds1") => `(tactic| first
  | ((with_reducible show PSt _ _ _ _ _ _); first
    | (with_reducible refine ps_seq ?_)
    | (with_reducible refine ps_ret ?_)
    | (with_reducible refine ps_if ?_)
    | (with_reducible refine ps_set ?_)
    | (with_reducible refine ps_next ?_)
    | (with_reducible refine ps_drop ?_)
    | (with_reducible refine ps_setix ?_))
  | ((with_reducible show PV _ _ _ _ _); first
    | ((with_reducible refine' pv_var ?k1 ?_); (case k1 => rfl))
    | (with_reducible refine pv_int ?_)
    | (with_reducible refine pv_str ?_)
    | (with_reducible refine pv_bl ?_)
    | (with_reducible refine pv_non ?_)
    | (with_reducible refine pv_and ?_)
    | (with_reducible refine pv_or ?_)
    | (with_reducible refine pv_not ?_)
    | (with_reducible refine pv_if ?_)
    | (with_reducible refine pv_op ?_)
    | (with_reducible refine pv_un ?_)
    | (with_reducible refine pv_chain ?_)
    | (with_reducible refine pv_tup ?_)
    | (with_reducible refine pv_call ?_)
    | (with_reducible refine pv_allT ?_)
    | (with_reducible refine pv_allS ?_)
    | (with_reducible refine pv_allR ?_)
    | (with_reducible refine pv_lcT ?_)
    | (with_reducible refine pv_lcL ?_)
    | (with_reducible refine pv_lcTF ?_)
    | (with_reducible refine pv_listRg2 ?_)
    | (with_reducible refine pv_cb ?_)
    | (with_reducible refine pv_sl ?_)
    | (with_reducible refine pv_dget ?_)
    | ((with_reducible refine' pv_const ?k1 ?_); (case k1 => assumption))
    | (with_reducible refine pv_raw ?_))
  | ((with_reducible show O2 _ _ _ _ _ _); first
    | (with_reducible refine o_add ?_)
    | ((with_reducible refine' o_iic ?k1 ?_); (case k1 => first | (show (0 : Int) < _; first | decide | assumption | omega) | exact Or.inr ⟨by decide, by decide⟩ | exact Or.inl ⟨by decide, by decide⟩))
    | (with_reducible refine o_ii ?_)
    | (with_reducible refine o_ib ?_)
    | (with_reducible refine o_le ?_)
    | (with_reducible refine o_lt ?_)
    | (with_reducible refine o_eqI ?_)
    | (with_reducible refine o_neI ?_)
    | (with_reducible refine o_eqS ?_)
    | (with_reducible refine o_eqB ?_)
    | (with_reducible refine o_neB ?_)
    | (with_reducible refine o_leS ?_)
    | (with_reducible refine o_inS ?_)
    | ((with_reducible refine' o_isN ?k1 ?_); (case k1 => rfl))
    | ((with_reducible refine' o_notN ?k1 ?_); (case k1 => rfl))
    | (with_reducible refine o_isntB ?_)
    | ((with_reducible refine' o_ixM ?k1 ?k2 ?_); (case k1 => first | assumption | exact put_same); (case k2 => first | exact at0 | exact at1 | exact atI_nat (j := 2) rfl | exact atI_nat (j := 3) rfl | exact atI_nat (j := 4) rfl))
    | ((with_reducible refine' o_ixT ?k1 ?_); (case k1 => first | exact at0 | exact at1 | exact atI_nat (j := 2) rfl | exact atI_nat (j := 3) rfl | exact atI_nat (j := 4) rfl | exact atI_nat (j := 5) rfl | exact atI_nat (j := 6) rfl | rfl)))
  | ((with_reducible show OC _ _ _ _ _); first
    | (with_reducible refine oc_isi (isT_int _) ?_)
    | (with_reducible refine oc_isi (isT_bool _) ?_)
    | (with_reducible refine oc_isi (isT_str _) ?_)
    | (with_reducible refine oc_isi (isT_tuple _) ?_)
    | (with_reducible refine oc_isi (isT_list _) ?_)
    | (with_reducible refine oc_lenT ?_)
    | (with_reducible refine oc_lenL ?_)
    | (with_reducible refine oc_lenR ?_)
    | (with_reducible refine oc_int ?_)
    | (with_reducible refine oc_abs ?_)
    | ((with_reducible refine oc_lenS ?k1 ?_); (case k1 => assumption)))
  | ((with_reducible show PAs _ _ _ _ _); first
    | (with_reducible refine pas_nil ?_)
    | (with_reducible refine pas_cons ?_))
  | ((with_reducible show PB _ _ _ _ _); first
    | (with_reducible refine pb_test' ?_)
    | (with_reducible refine pb_B ?_)
    | (with_reducible refine pb_and ?_)
    | (with_reducible refine pb_or ?_)
    | (with_reducible refine pb_not ?_))
  | ((with_reducible show PPart _ _ _ _ _); first
    | (with_reducible refine pp_none ?_)
    | (with_reducible refine pp_some ?_))
  | ((with_reducible show O1 _ _ _ _ _); first
    | (with_reducible refine o_neg ?_))
  | ((with_reducible show OSl _ _ _ _ _ _ _); first
    | (with_reducible refine os_lst ?_)
    | (with_reducible refine os_tup ?_))
  | ((with_reducible refine ite_t ?k1 ?_); (case k1 => rfl))
  | ((with_reducible refine ite_f ?k1 ?_); (case k1 => rfl))
  | ((with_reducible refine use_FJ ?k1 ?_); (case k1 => first | rfl | assumption))
  | (with_reducible refine use_is_between ?_)
  | (with_reducible refine use_is_tuple_of ?_)
  | (refine Or.inl (Exists.intro _ (And.intro rfl (And.intro (le_line (Nat.le_of_ble_eq_true rfl)) ?_))))
  | (refine Or.inr (Exists.intro _ (And.intro rfl (And.intro (le_line (Nat.le_of_ble_eq_true rfl)) ?_))))
  | (with_reducible refine Exists.intro _ (And.intro rfl ?_))
  | ((with_reducible refine And.intro ?k1 ?_); (case k1 => exact le_line (Nat.le_of_ble_eq_true rfl))))
local macro_rules | `(tactic| walk_at "ds") => `(tactic| repeat walk_at "ds1")
variable {P : Program} {w : World} {K : PySem.W.Frag} {mg : Str → Option Value} {base : Heap}
theorem ok_law {f : Addr} {fd : FuncData} (F : Fun K "law" "law" s_law f fd)   (B : Blt mg) {f__law_pot : Addr} {fd__law_pot : FuncData} {ps__law_pot : List Str} (D__law_pot : L2.Def P w K mg base 1 "_law_pot" f__law_pot fd__law_pot ps__law_pot (SpF K F__law_pot)) {f__law_is : Addr} {fd__law_is : FuncData} {ps__law_is : List Str} (D__law_is : L2.Def P w K mg base 9 "_law_is" f__law_is fd__law_is ps__law_is (SpF K (F_isS 8))) {f_bare_sheet : Addr} {fd_bare_sheet : FuncData} {ps_bare_sheet : List Str} (D_bare_sheet : L2.Def P w K mg base 1 "bare_sheet" f_bare_sheet fd_bare_sheet ps_bare_sheet (SpF K F_bare_sheet)) {f__law_sheet : Addr} {fd__law_sheet : FuncData} {ps__law_sheet : List Str} (D__law_sheet : L2.Def P w K mg base 5 "_law_sheet" f__law_sheet fd__law_sheet ps__law_sheet (SpF K (FPd GdS))) {f__law_note : Addr} {fd__law_note : FuncData} {ps__law_note : List Str} (D__law_note : L2.Def P w K mg base 6 "_law_note" f__law_note fd__law_note ps__law_note (SpF K F_note)) {f__law_flag : Addr} {fd__law_flag : FuncData} {ps__law_flag : List Str} (D__law_flag : L2.Def P w K mg base 1 "_law_flag" f__law_flag fd__law_flag ps__law_flag (SpF K F_flag)) {f_is_sheet : Addr} {fd_is_sheet : FuncData} {ps_is_sheet : List Str} (D_is_sheet : L2.Def P w K mg base 8 "is_sheet" f_is_sheet fd_is_sheet ps_is_sheet (SpF K (FJ fit isSheet))) {f_is_note : Addr} {fd_is_note : FuncData} {ps_is_note : List Str} (D_is_note : L2.Def P w K mg base 10 "is_note" f_is_note fd_is_note ps_is_note (SpF K (FJ fit isNote))) {f__law_word : Addr} {fd__law_word : FuncData} {ps__law_word : List Str} (D__law_word : L2.Def P w K mg base 12 "_law_word" f__law_word fd__law_word ps__law_word (SpF K F_word)) {f__law_behind : Addr} {fd__law_behind : FuncData} {ps__law_behind : List Str} (D__law_behind : L2.Def P w K mg base 1 "_law_behind" f__law_behind fd__law_behind ps__law_behind (SpF K F_behindS)) {f__law_bent : Addr} {fd__law_bent : FuncData} {ps__law_bent : List Str} (D__law_bent : L2.Def P w K mg base 10 "_law_bent" f__law_bent fd__law_bent ps__law_bent (SpF K (F_bent 6))) {f__law_is_sheet : Addr} {fd__law_is_sheet : FuncData} {ps__law_is_sheet : List Str} (D__law_is_sheet : L2.Def P w K mg base 4 "_law_is_sheet" f__law_is_sheet fd__law_is_sheet ps__law_is_sheet (SpF K (FJ fit isSheet))) {f__law_is_note : Addr} {fd__law_is_note : FuncData} {ps__law_is_note : List Str} (D__law_is_note : L2.Def P w K mg base 5 "_law_is_note" f__law_is_note fd__law_is_note ps__law_is_note (SpF K (FJ fit isNote)))  : FnOk P w K mg base CX0 14 f fd ["_law_script"] (SpF K F_law) := by
  refine F.ok sc_law (fun vs H Q E h => ?_) (fun cdv A outer s H vs Q E hr h => ?_)
  · exact lenF h fun c g es P h => h.1
  obtain ⟨I, g, es, P, ok, r, hF, k⟩ := spFL h
  have nd := sc_law.nd
  have hu := hr.units
  have hu1 := hu_of hr
  refine ⟨_, (pss_cons (L2.ps_set (i := 1) nd rfl (by first | exact Or.inl rfl | exact Or.inr rfl | exact Or.inr (Or.inl rfl)) (pe_call D__law_pot.ok (hr.mono (by first | decide | omega)) rfl D__law_pot.at_ D__law_pot.kp D__law_pot.bd .nil pass0 (pa_cons (pv 0) pa_nil)))
      (pss_cons (L2.ps_if (pt_not (pt_val (pe_call D__law_is.ok (hr.mono (by first | decide | omega)) rfl D__law_is.at_ D__law_is.kp D__law_is.bd .nil pass0 (pa_cons (pe_call0 D_bare_sheet.ok (hr.mono (by first | decide | omega)) rfl D_bare_sheet.at_ D_bare_sheet.kp D_bare_sheet.bd .nil pass0) (pa_cons (pe_tup (pa_cons pe_int (pa_cons pe_int (pa_cons (pe_tup pa_nil) pa_nil)))) pa_nil))))) (pss_one (L2.ps_ret pe_bl)) pss_nil)
      (pss_cons (L2.ps_for PassesOwn.never rfl (pi_range1 rfl B.range_ (pa_cons pe_int pa_nil)) (pg_name (i := 2) nd rfl (by first | exact Or.inl rfl | exact Or.inr rfl)) (pss_cons (L2.ps_set (i := 3) nd rfl (by first | exact Or.inl rfl | exact Or.inr rfl | exact Or.inr (Or.inl rfl)) (pe_call D__law_sheet.ok (hr.mono (by first | decide | omega)) rfl D__law_sheet.at_ D__law_sheet.kp D__law_sheet.bd .nil pass0 (pa_cons (pv 1) pa_nil)))
      (pss_cons (L2.ps_set (i := 4) nd rfl (by first | exact Or.inl rfl | exact Or.inr rfl | exact Or.inr (Or.inl rfl)) (pe_call D__law_note.ok (hr.mono (by first | decide | omega)) rfl D__law_note.at_ D__law_note.kp D__law_note.bd .nil pass0 (pa_cons (pv 1) (pa_cons (pv 3) pa_nil))))
      (pss_cons (L2.ps_if (PW.pt (pw_or (pt_not (pt_val (pe_call D__law_flag.ok (hr.mono (by first | decide | omega)) rfl D__law_flag.at_ D__law_flag.kp D__law_flag.bd .nil pass0 (pa_cons (pe_call D_is_sheet.ok (hr.mono (by first | decide | omega)) rfl D_is_sheet.at_ D_is_sheet.kp D_is_sheet.bd .nil pass0 (pa_cons (pv 3) pa_nil)) (pa_cons pe_bl pa_nil))))) (pw_or1 (pt_not (pt_val (pe_call D__law_flag.ok (hr.mono (by first | decide | omega)) rfl D__law_flag.at_ D__law_flag.kp D__law_flag.bd .nil pass0 (pa_cons (pe_call D_is_note.ok (hr.mono (by first | decide | omega)) rfl D_is_note.at_ D_is_note.kp D_is_note.bd .nil pass0 (pa_cons (pv 4) pa_nil)) (pa_cons pe_bl pa_nil)))))))) (pss_one (L2.ps_ret pe_bl)) pss_nil)
      (pss_cons (L2.ps_if (pt_not (pt_val (pe_call D__law_is.ok (hr.mono (by first | decide | omega)) rfl D__law_is.at_ D__law_is.kp D__law_is.bd .nil pass0 (pa_cons (pe_call D__law_word.ok (hr.mono (by first | decide | omega)) rfl D__law_word.at_ D__law_word.kp D__law_word.bd .nil pass0 (pa_cons (pv 3) (pa_cons (pv 4) pa_nil))) (pa_cons (pe_tup (pa_cons pe_str (pa_cons (pe_call D__law_behind.ok (hr.mono (by first | decide | omega)) rfl D__law_behind.at_ D__law_behind.kp D__law_behind.bd .nil pass0 (pa_cons (pv 3) (pa_cons (pv 4) pa_nil))) pa_nil))) pa_nil))))) (pss_one (L2.ps_ret pe_bl)) pss_nil)
      (pss_cons (ps_par (i := 5) (j := 6) rfl nd rfl rfl (by decide) rfl rfl (pa_cons (pe_call D__law_bent.ok (hr.mono (by first | decide | omega)) rfl D__law_bent.at_ D__law_bent.kp D__law_bent.bd .nil pass0 (pa_cons (pv 1) (pa_cons (pv 3) pa_nil))) (pa_cons (pe_call D__law_bent.ok (hr.mono (by first | decide | omega)) rfl D__law_bent.at_ D__law_bent.kp D__law_bent.bd .nil pass0 (pa_cons (pv 1) (pa_cons (pv 4) pa_nil))) pa_nil)) (by rfl))
      (pss_cons (L2.ps_if (PW.pt (pw_or (pt_not (pt_val (pe_call D__law_flag.ok (hr.mono (by first | decide | omega)) rfl D__law_flag.at_ D__law_flag.kp D__law_flag.bd .nil pass0 (pa_cons (pe_call D_is_sheet.ok (hr.mono (by first | decide | omega)) rfl D_is_sheet.at_ D_is_sheet.kp D_is_sheet.bd .nil pass0 (pa_cons (pv 5) pa_nil)) (pa_cons (pe_call D__law_is_sheet.ok (hr.mono (by first | decide | omega)) rfl D__law_is_sheet.at_ D__law_is_sheet.kp D__law_is_sheet.bd .nil pass0 (pa_cons (pv 5) pa_nil)) pa_nil))))) (pw_or1 (pt_not (pt_val (pe_call D__law_flag.ok (hr.mono (by first | decide | omega)) rfl D__law_flag.at_ D__law_flag.kp D__law_flag.bd .nil pass0 (pa_cons (pe_call D_is_note.ok (hr.mono (by first | decide | omega)) rfl D_is_note.at_ D_is_note.kp D_is_note.bd .nil pass0 (pa_cons (pv 6) pa_nil)) (pa_cons (pe_call D__law_is_note.ok (hr.mono (by first | decide | omega)) rfl D__law_is_note.at_ D__law_is_note.kp D__law_is_note.bd .nil pass0 (pa_cons (pv 6) pa_nil)) pa_nil)))))))) (pss_one (L2.ps_ret pe_bl)) pss_nil)
      (pss_cons (L2.ps_set (i := 7) nd rfl (by first | exact Or.inl rfl | exact Or.inr rfl | exact Or.inr (Or.inl rfl)) (pe_tup (pa_cons pe_str pa_nil)))
      (pss_cons (L2.ps_if (pt_val (pe_call D__law_is_note.ok (hr.mono (by first | decide | omega)) rfl D__law_is_note.at_ D__law_is_note.kp D__law_is_note.bd .nil pass0 (pa_cons (pv 6) pa_nil))) (pss_one (L2.ps_set (i := 7) nd rfl (by first | exact Or.inl rfl | exact Or.inr rfl | exact Or.inr (Or.inl rfl)) (pe_tup (pa_cons pe_str (pa_cons (pe_call D__law_behind.ok (hr.mono (by first | decide | omega)) rfl D__law_behind.at_ D__law_behind.kp D__law_behind.bd .nil pass0 (pa_cons (pv 3) (pa_cons (pv 6) pa_nil))) pa_nil))))) pss_nil)
      (pss_cons (L2.ps_if (pt_not (pt_val (pe_call D__law_is.ok (hr.mono (by first | decide | omega)) rfl D__law_is.at_ D__law_is.kp D__law_is.bd .nil pass0 (pa_cons (pe_call D__law_word.ok (hr.mono (by first | decide | omega)) rfl D__law_word.at_ D__law_word.kp D__law_word.bd .nil pass0 (pa_cons (pv 3) (pa_cons (pv 6) pa_nil))) (pa_cons (pv 7) pa_nil))))) (pss_one (L2.ps_ret pe_bl)) pss_nil)
      (pss_cons (L2.ps_set (i := 7) nd rfl (by first | exact Or.inl rfl | exact Or.inr rfl | exact Or.inr (Or.inl rfl)) (pe_ifExp (pt_not (pt_val (pe_call D__law_is_sheet.ok (hr.mono (by first | decide | omega)) rfl D__law_is_sheet.at_ D__law_is_sheet.kp D__law_is_sheet.bd .nil pass0 (pa_cons (pv 5) pa_nil)))) (pe_tup (pa_cons pe_str pa_nil)) (pv 7)))
      (pss_cons (L2.ps_if (pt_cmpR (op_zeq (K := (sC K).K) hu) (pe_ix (ix_z (K := (sC K).K) (w := w)) (pv 7) pe_int (fun _ _ => rfl)) pe_str (nomark _)) (pss_one (L2.ps_set (i := 7) nd rfl (by first | exact Or.inl rfl | exact Or.inr rfl | exact Or.inr (Or.inl rfl)) (pe_tup (pa_cons pe_str (pa_cons (pe_call D__law_behind.ok (hr.mono (by first | decide | omega)) rfl D__law_behind.at_ D__law_behind.kp D__law_behind.bd .nil pass0 (pa_cons (pv 5) (pa_cons (pv 6) pa_nil))) pa_nil))))) pss_nil)
      (pss_one (L2.ps_if (pt_not (pt_val (pe_call D__law_is.ok (hr.mono (by first | decide | omega)) rfl D__law_is.at_ D__law_is.kp D__law_is.bd .nil pass0 (pa_cons (pe_call D__law_word.ok (hr.mono (by first | decide | omega)) rfl D__law_word.at_ D__law_word.kp D__law_word.bd .nil pass0 (pa_cons (pv 5) (pa_cons (pv 6) pa_nil))) (pa_cons (pv 7) pa_nil))))) (pss_one (L2.ps_ret pe_bl)) pss_nil))))))))))))))
      (pss_one (L2.ps_ret pe_bl))))), body_run ok r k ?_⟩
  obtain ⟨ns, rfl, hl, hP⟩ := hF
  refine Dl.ps_seq (Dl.ps_set ?_)
  walk_at "ds"
  refine use_FL rfl ⟨ns, rfl, hl, fun p g0 hp0 hpp0 hk0 => ?_⟩
  walk_at "ds"
  refine ⟨rfl, rfl, ?_⟩
  walk_at "ds"
  refine ⟨rfl, .tuple [.int 0, .int 0, .tuple []], rfl, by decide +kernel, by decide +kernel, by simp [PyData.depth, PyData.depthAll], ?_⟩
  refine ⟨_, rfl, ite_f rfl ?_⟩
  walk_at "ds"
  refine Dl.ps_for (pit_rng1 ?_)
  walk_at "ds"
  refine ⟨by decide, by decide, fun n ρ2 (g2 : Store) => ∃ e2 e3 e4 e5 e6 e7 : Option EV, ρ2 = [some (.d (.list (ns.map .int))), some (.r (.ref p)), e2, e3, e4, e5, e6, e7] ∧ PotIs g2 p, ⟨none, none, none, none, none, none, rfl, hpp0⟩, ?_, ?_⟩
  · rintro n ρ2 g2 hn ⟨e2, e3, e4, e5, e6, e7, rfl, hp2⟩
    refine Dl.ps_seq (Dl.ps_set ?_)
    walk_at "ds"
    refine use_FL rfl ⟨p, rfl, hp2, fun g3 sh hp3 _ hsh => ?_⟩
    refine Dl.ps_seq (Dl.ps_set ?_)
    walk_at "ds"
    refine use_FL rfl ⟨p, sh, rfl, hp3, hsh, fun g4 dd hp4 _ hdd => ?_⟩
    have s1 : SMf sh := sm_of_gd (by decide) (by decide) hsh.2.1
    have s2 : SMf dd := sm_of_gd (by decide) (by decide) hdd.2.1
    walk_at "ds"
    refine use_FJ s1.fit ?_
    walk_at "ds"
    rw [hsh.1]
    refine ⟨rfl, true, true, rfl, ?_⟩
    refine ⟨_, rfl, ite_f rfl ?_⟩
    walk_at "ds"
    refine use_FJ s2.fit ?_
    walk_at "ds"
    rw [hdd.1]
    refine ⟨rfl, true, true, rfl, ?_⟩
    refine ⟨_, rfl, ite_f rfl ?_⟩
    walk_at "ds"
    refine ⟨rfl, sh, dd, rfl, s1.fit, s2.fit, ?_⟩
    walk_at "ds"
    refine ⟨rfl, sh, dd, rfl, hsh.1, hdd.1, s1.fit, ?_⟩
    walk_at "ds"
    have w1 : wordD sh dd = .tuple [.str "told", noted sh dd] := by unfold wordD; rw [if_pos hsh.1, if_pos hdd.1]
    rw [w1]
    have n1 := told_nic (noted_nic hsh.1 hdd.1 s1 s2)
    refine ⟨rfl, _, rfl, n1.1, n1.2.1, Nat.lt_of_le_of_lt n1.2.2 (by decide), ?_⟩
    refine ⟨_, rfl, ite_f rfl ?_⟩
    walk_at "ds"
    refine ps_par2 ?_
    walk_at "ds"
    refine use_FL rfl ⟨p, sh, rfl, hp4, gd_mono (by decide) hsh.2.1, Nat.lt_of_le_of_lt hsh.2.2 (by decide), fun g5 one hp5 _ hone => ?_⟩
    walk_at "ds"
    refine use_FL rfl ⟨p, dd, rfl, hp5, hdd.2.1, Nat.lt_of_le_of_lt hdd.2.2 (by decide), fun g6 oth hp6 _ hoth => ?_⟩
    walk_at "ds"
    refine ⟨_, _, rfl, ?_⟩
    have f1 : SMf one := hone
    have f2 : SMf oth := hoth
    walk_at "ds"
    refine use_FJ f1.fit ?_
    walk_at "ds"
    refine use_FJ f1.fit ?_
    walk_at "ds"
    refine ⟨rfl, _, _, rfl, ?_⟩
    refine ⟨_, rfl, ite_f (by simp) ?_⟩
    walk_at "ds"
    refine use_FJ f2.fit ?_
    walk_at "ds"
    refine use_FJ f2.fit ?_
    walk_at "ds"
    refine ⟨rfl, _, _, rfl, ?_⟩
    refine ⟨_, rfl, ite_f (by simp) ?_⟩
    walk_at "ds"
    refine use_FJ f2.fit ?_
    cases h2 : isNote oth with
    | false =>
      cases h1 : isSheet one with
      | false =>
        have w2 : wordD sh oth = .tuple [.str "note"] := by unfold wordD; rw [if_pos hsh.1, if_neg (by rw [h2]; decide)]
        have w3 : wordD one oth = .tuple [.str "sheet"] := by unfold wordD; rw [if_neg (by rw [h1]; decide)]
        have n2 : Nic 5 (.tuple [.str "note"]) := word_nic (by decide)
        have n3 : Nic 5 (.tuple [.str "sheet"]) := word_nic (by decide)
        refine ⟨_, rfl, ite_f rfl ?_⟩
        walk_at "ds"
        refine ⟨rfl, sh, oth, rfl, s1.fit, f2.fit, ?_⟩
        walk_at "ds"
        rw [w2]
        refine ⟨rfl, _, rfl, n2.1, n2.2.1, Nat.lt_of_le_of_lt n2.2.2 (by decide), ?_⟩
        refine ⟨_, rfl, ite_f rfl ?_⟩
        walk_at "ds"
        refine use_FJ f1.fit ?_
        rw [h1]
        refine ⟨_, rfl, ite_t rfl ?_⟩
        walk_at "ds"
        refine ⟨rfl, one, oth, rfl, f1.fit, f2.fit, ?_⟩
        walk_at "ds"
        rw [w3]
        refine ⟨rfl, _, rfl, n3.1, n3.2.1, Nat.lt_of_le_of_lt n3.2.2 (by decide), ?_⟩
        refine ⟨_, rfl, ite_f rfl ?_⟩
        walk_at "ds"
        exact ⟨_, _, _, _, _, _, rfl, hp6⟩
      | true =>
        have w2 : wordD sh oth = .tuple [.str "note"] := by unfold wordD; rw [if_pos hsh.1, if_neg (by rw [h2]; decide)]
        have w3 : wordD one oth = .tuple [.str "note"] := by unfold wordD; rw [if_pos h1, if_neg (by rw [h2]; decide)]
        have n2 : Nic 5 (.tuple [.str "note"]) := word_nic (by decide)
        have n3 : Nic 5 (.tuple [.str "note"]) := word_nic (by decide)
        refine ⟨_, rfl, ite_f rfl ?_⟩
        walk_at "ds"
        refine ⟨rfl, sh, oth, rfl, s1.fit, f2.fit, ?_⟩
        walk_at "ds"
        rw [w2]
        refine ⟨rfl, _, rfl, n2.1, n2.2.1, Nat.lt_of_le_of_lt n2.2.2 (by decide), ?_⟩
        refine ⟨_, rfl, ite_f rfl ?_⟩
        walk_at "ds"
        refine use_FJ f1.fit ?_
        rw [h1]
        refine ⟨_, rfl, ite_f rfl ?_⟩
        walk_at "ds"
        refine ⟨rfl, one, oth, rfl, f1.fit, f2.fit, ?_⟩
        walk_at "ds"
        rw [w3]
        refine ⟨rfl, _, rfl, n3.1, n3.2.1, Nat.lt_of_le_of_lt n3.2.2 (by decide), ?_⟩
        refine ⟨_, rfl, ite_f rfl ?_⟩
        walk_at "ds"
        exact ⟨_, _, _, _, _, _, rfl, hp6⟩
    | true =>
      cases h1 : isSheet one with
      | false =>
        have w2 : wordD sh oth = .tuple [.str "told", noted sh oth] := by unfold wordD; rw [if_pos hsh.1, if_pos h2]
        have w3 : wordD one oth = .tuple [.str "sheet"] := by unfold wordD; rw [if_neg (by rw [h1]; decide)]
        have n2 : Nic 5 (.tuple [.str "told", noted sh oth]) := told_nic (noted_nic hsh.1 h2 s1 f2)
        have n3 : Nic 5 (.tuple [.str "sheet"]) := word_nic (by decide)
        refine ⟨_, rfl, ite_t rfl ?_⟩
        walk_at "ds"
        refine ⟨rfl, sh, oth, rfl, hsh.1, h2, s1.fit, ?_⟩
        walk_at "ds"
        refine ⟨rfl, sh, oth, rfl, s1.fit, f2.fit, ?_⟩
        walk_at "ds"
        rw [w2]
        refine ⟨rfl, _, rfl, n2.1, n2.2.1, Nat.lt_of_le_of_lt n2.2.2 (by decide), ?_⟩
        refine ⟨_, rfl, ite_f rfl ?_⟩
        walk_at "ds"
        refine use_FJ f1.fit ?_
        rw [h1]
        refine ⟨_, rfl, ite_t rfl ?_⟩
        walk_at "ds"
        refine ⟨rfl, one, oth, rfl, f1.fit, f2.fit, ?_⟩
        walk_at "ds"
        rw [w3]
        refine ⟨rfl, _, rfl, n3.1, n3.2.1, Nat.lt_of_le_of_lt n3.2.2 (by decide), ?_⟩
        refine ⟨_, rfl, ite_f rfl ?_⟩
        walk_at "ds"
        exact ⟨_, _, _, _, _, _, rfl, hp6⟩
      | true =>
        have w2 : wordD sh oth = .tuple [.str "told", noted sh oth] := by unfold wordD; rw [if_pos hsh.1, if_pos h2]
        have w3 : wordD one oth = .tuple [.str "told", noted one oth] := by unfold wordD; rw [if_pos h1, if_pos h2]
        have n2 : Nic 5 (.tuple [.str "told", noted sh oth]) := told_nic (noted_nic hsh.1 h2 s1 f2)
        have n3 : Nic 5 (.tuple [.str "told", noted one oth]) := told_nic (noted_nic h1 h2 f1 f2)
        refine ⟨_, rfl, ite_t rfl ?_⟩
        walk_at "ds"
        refine ⟨rfl, sh, oth, rfl, hsh.1, h2, s1.fit, ?_⟩
        walk_at "ds"
        refine ⟨rfl, sh, oth, rfl, s1.fit, f2.fit, ?_⟩
        walk_at "ds"
        rw [w2]
        refine ⟨rfl, _, rfl, n2.1, n2.2.1, Nat.lt_of_le_of_lt n2.2.2 (by decide), ?_⟩
        refine ⟨_, rfl, ite_f rfl ?_⟩
        walk_at "ds"
        refine use_FJ f1.fit ?_
        rw [h1]
        refine ⟨_, rfl, ite_f rfl ?_⟩
        walk_at "ds"
        refine ⟨rfl, one, oth, rfl, h1, h2, f1.fit, ?_⟩
        walk_at "ds"
        refine ⟨rfl, one, oth, rfl, f1.fit, f2.fit, ?_⟩
        walk_at "ds"
        rw [w3]
        refine ⟨rfl, _, rfl, n3.1, n3.2.1, Nat.lt_of_le_of_lt n3.2.2 (by decide), ?_⟩
        refine ⟨_, rfl, ite_f rfl ?_⟩
        walk_at "ds"
        exact ⟨_, _, _, _, _, _, rfl, hp6⟩
  · rintro ρ2 g2 ⟨e2, e3, e4, e5, e6, e7, rfl, hp2⟩
    walk_at "ds"
    exact hP _
end Pr
set_option Elab.async false
set_option linter.all false
set_option autoImplicit false
set_option maxRecDepth 100000
set_option maxHeartbeats 4000000
namespace Pr
open PySem PySem.Spec PyProof.Rows L2 Dl
theorem all_mk {l : PySem.W.OpenLaw} {w : World} {K : PySem.W.Frag} {h : Heap} {mg : Str → Option Value} {fa : Addr} (X : K.In h) (G : h.Ns mainGlobals mg) (hfa : mg "law" = some (.ref fa))
    {f_law : Addr} (I_law : IsDef K "law" s_law f_law)
    {f__law_pot : Addr} (I__law_pot : IsDef K "_law_pot" s__law_pot f__law_pot)
    {f__law_is : Addr} (I__law_is : IsDef K "_law_is" s__law_is f__law_is)
    {f_bare_sheet : Addr} (I_bare_sheet : IsDef K "bare_sheet" s_bare_sheet f_bare_sheet)
    {f__law_sheet : Addr} (I__law_sheet : IsDef K "_law_sheet" s__law_sheet f__law_sheet)
    {f__law_any : Addr} (I__law_any : IsDef K "_law_any" s__law_any f__law_any)
    {f__law_draw : Addr} (I__law_draw : IsDef K "_law_draw" s__law_draw f__law_draw)
    {f__law_name : Addr} (I__law_name : IsDef K "_law_name" s__law_name f__law_name)
    {f__law_base : Addr} (I__law_base : IsDef K "_law_base" s__law_base f__law_base)
    {f__law_edit : Addr} (I__law_edit : IsDef K "_law_edit" s__law_edit f__law_edit)
    {f__law_text : Addr} (I__law_text : IsDef K "_law_text" s__law_text f__law_text)
    {f__law_signs : Addr} (I__law_signs : IsDef K "_law_signs" s__law_signs f__law_signs)
    {f__law_note : Addr} (I__law_note : IsDef K "_law_note" s__law_note f__law_note)
    {f__law_flag : Addr} (I__law_flag : IsDef K "_law_flag" s__law_flag f__law_flag)
    {f_is_sheet : Addr} (I_is_sheet : IsDef K "is_sheet" s_is_sheet f_is_sheet)
    {f_is_tuple_of : Addr} (I_is_tuple_of : IsDef K "is_tuple_of" s_is_tuple_of f_is_tuple_of)
    {f_is_count : Addr} (I_is_count : IsDef K "is_count" s_is_count f_is_count)
    {f_is_integer : Addr} (I_is_integer : IsDef K "is_integer" s_is_integer f_is_integer)
    {f_are_rows : Addr} (I_are_rows : IsDef K "are_rows" s_are_rows f_are_rows)
    {f_are_all : Addr} (I_are_all : IsDef K "are_all" s_are_all f_are_all)
    {f_is_number : Addr} (I_is_number : IsDef K "is_number" s_is_number f_is_number)
    {f_is_name : Addr} (I_is_name : IsDef K "is_name" s_is_name f_is_name)
    {f_is_base : Addr} (I_is_base : IsDef K "is_base" s_is_base f_is_base)
    {f_is_edit : Addr} (I_is_edit : IsDef K "is_edit" s_is_edit f_is_edit)
    {f_is_stamp : Addr} (I_is_stamp : IsDef K "is_stamp" s_is_stamp f_is_stamp)
    {f_is_client : Addr} (I_is_client : IsDef K "is_client" s_is_client f_is_client)
    {f_is_between : Addr} (I_is_between : IsDef K "is_between" s_is_between f_is_between)
    {f_is_text : Addr} (I_is_text : IsDef K "is_text" s_is_text f_is_text)
    {f_has_word : Addr} (I_has_word : IsDef K "has_word" s_has_word f_has_word)
    {f_are_ascending : Addr} (I_are_ascending : IsDef K "are_ascending" s_are_ascending f_are_ascending)
    {f_is_note : Addr} (I_is_note : IsDef K "is_note" s_is_note f_is_note)
    {f__law_word : Addr} (I__law_word : IsDef K "_law_word" s__law_word f__law_word)
    {f_noted_behind : Addr} (I_noted_behind : IsDef K "noted_behind" s_noted_behind f_noted_behind)
    {f_check_sheet : Addr} (I_check_sheet : IsDef K "check_sheet" s_check_sheet f_check_sheet)
    {f_raw_noted : Addr} (I_raw_noted : IsDef K "raw_noted" s_raw_noted f_raw_noted)
    {f__law_behind : Addr} (I__law_behind : IsDef K "_law_behind" s__law_behind f__law_behind)
    {f__law_bent : Addr} (I__law_bent : IsDef K "_law_bent" s__law_bent f__law_bent)
    {f__law_deep : Addr} (I__law_deep : IsDef K "_law_deep" s__law_deep f__law_deep)
    {f__law_is_sheet : Addr} (I__law_is_sheet : IsDef K "_law_is_sheet" s__law_is_sheet f__law_is_sheet)
    {f__law_is_int : Addr} (I__law_is_int : IsDef K "_law_is_int" s__law_is_int f__law_is_int)
    {f__law_is_name : Addr} (I__law_is_name : IsDef K "_law_is_name" s__law_is_name f__law_is_name)
    {f__law_is_base : Addr} (I__law_is_base : IsDef K "_law_is_base" s__law_is_base f__law_is_base)
    {f__law_is_edit : Addr} (I__law_is_edit : IsDef K "_law_is_edit" s__law_is_edit f__law_is_edit)
    {f__law_is_text : Addr} (I__law_is_text : IsDef K "_law_is_text" s__law_is_text f__law_is_text)
    {f__law_is_client : Addr} (I__law_is_client : IsDef K "_law_is_client" s__law_is_client f__law_is_client)
    {f__law_is_note : Addr} (I__law_is_note : IsDef K "_law_is_note" s__law_is_note f__law_is_note)
    {a_BARE_SHEET : Addr} (N_BARE_SHEET : PySem.W.nsIn K mainGlobals "BARE_SHEET" = some (some (.ref a_BARE_SHEET)))
    {t_BOOT : Tok} (N_BOOT : PySem.W.nsIn K mainGlobals "BOOT" = some (some (.int 0 t_BOOT)))
    {t_NUMBER : Tok} (N_NUMBER : PySem.W.nsIn K mainGlobals "NUMBER" = some (some (.int 1 t_NUMBER)))
    {t_PENDING : Tok} (N_PENDING : PySem.W.nsIn K mainGlobals "PENDING" = some (some (.int 2 t_PENDING)))
    {t_MOST_IN_NAME : Tok} (N_MOST_IN_NAME : PySem.W.nsIn K mainGlobals "MOST_IN_NAME" = some (some (.int 8 t_MOST_IN_NAME)))
    {t_SIGNS : Tok} (N_SIGNS : PySem.W.nsIn K mainGlobals "SIGNS" = some (some (.str "abcdefghijklmnopqrstuvwxyz" t_SIGNS)))
    {a_FIRST_STAMP : Addr} (N_FIRST_STAMP : PySem.W.nsIn K mainGlobals "FIRST_STAMP" = some (some (.ref a_FIRST_STAMP)))
    {t_MOST_CLIENTS : Tok} (N_MOST_CLIENTS : PySem.W.nsIn K mainGlobals "MOST_CLIENTS" = some (some (.int 9 t_MOST_CLIENTS)))
    {a_EDITS : Addr} (N_EDITS : PySem.W.nsIn K mainGlobals "EDITS" = some (some (.ref a_EDITS)))
    {t_MOST_IN_TEXT : Tok} (N_MOST_IN_TEXT : PySem.W.nsIn K mainGlobals "MOST_IN_TEXT" = some (some (.int 96 t_MOST_IN_TEXT)))
    {a_NOTES : Addr} (N_NOTES : PySem.W.nsIn K mainGlobals "NOTES" = some (some (.ref a_NOTES)))
    {at3 : Addr} (U_a_BARE_SHEET : IsTupV K a_BARE_SHEET [.int 0, .int 0, .ref at3])
    (U_a_FIRST_STAMP : IsTupV K a_FIRST_STAMP [.int 0, .int 0, .int 0])
    (U_at3 : IsTupV K at3 [])
    {es_EDITS : Array DictEntry} {n_EDITS : Nat} (T_EDITS : IsTab K w a_EDITS ["put", "splice", "remove", "take", "adopt", "drop"] es_EDITS n_EDITS)
    {es_NOTES : Array DictEntry} {n_NOTES : Nat} (T_NOTES : IsTab K w a_NOTES ["boot", "write", "settled", "stand"] es_NOTES n_NOTES)
    {e_EDITS0 : Addr} (V_EDITS0 : PySem.W.nsIn K a_EDITS "put" = some (some (.ref e_EDITS0)))
    (W_EDITS0 : IsTupV K e_EDITS0 [.ref f_is_text])
    {e_EDITS1 : Addr} (V_EDITS1 : PySem.W.nsIn K a_EDITS "splice" = some (some (.ref e_EDITS1)))
    (W_EDITS1 : IsTupV K e_EDITS1 [.ref f_is_count, .ref f_is_count, .ref f_is_text])
    {e_EDITS2 : Addr} (V_EDITS2 : PySem.W.nsIn K a_EDITS "remove" = some (some (.ref e_EDITS2)))
    (W_EDITS2 : IsTupV K e_EDITS2 [])
    {e_EDITS3 : Addr} (V_EDITS3 : PySem.W.nsIn K a_EDITS "take" = some (some (.ref e_EDITS3)))
    (W_EDITS3 : IsTupV K e_EDITS3 [.ref f_is_name])
    {e_EDITS4 : Addr} (V_EDITS4 : PySem.W.nsIn K a_EDITS "adopt" = some (some (.ref e_EDITS4)))
    (W_EDITS4 : IsTupV K e_EDITS4 [.ref f_is_client, .ref f_is_number])
    {e_EDITS5 : Addr} (V_EDITS5 : PySem.W.nsIn K a_EDITS "drop" = some (some (.ref e_EDITS5)))
    (W_EDITS5 : IsTupV K e_EDITS5 [.ref f_is_client, .ref f_is_number])
    {e_NOTES0 : Addr} (V_NOTES0 : PySem.W.nsIn K a_NOTES "boot" = some (some (.ref e_NOTES0)))
    (W_NOTES0 : IsTupV K e_NOTES0 [])
    {e_NOTES1 : Addr} (V_NOTES1 : PySem.W.nsIn K a_NOTES "write" = some (some (.ref e_NOTES1)))
    (W_NOTES1 : IsTupV K e_NOTES1 [.ref f_is_name, .ref f_is_base, .ref f_is_edit])
    {e_NOTES2 : Addr} (V_NOTES2 : PySem.W.nsIn K a_NOTES "settled" = some (some (.ref e_NOTES2)))
    (W_NOTES2 : IsTupV K e_NOTES2 [.ref f_is_number])
    {e_NOTES3 : Addr} (V_NOTES3 : PySem.W.nsIn K a_NOTES "stand" = some (some (.ref e_NOTES3)))
    (W_NOTES3 : IsTupV K e_NOTES3 [.ref f_is_sheet])
    {C_LeaseError : Addr} (EX_LeaseError : IsErr K "LeaseError" C_LeaseError)
    {C_NoSheet : Addr} (EX_NoSheet : IsErr K "NoSheet" C_NoSheet)
    {C_NoNote : Addr} (EX_NoNote : IsErr K "NoNote" C_NoNote)
    (EF_LeaseError_NoSheet : ErrF K C_LeaseError C_NoSheet)
    (EF_LeaseError_NoNote : ErrF K C_LeaseError C_NoNote)
    (EN_NoSheet_NoNote : PySem.W.kitOne K (.ref C_NoSheet) (.ref C_NoNote) = some false)
    (EN_NoNote_NoSheet : PySem.W.kitOne K (.ref C_NoNote) (.ref C_NoSheet) = some false)
    (z_isinstance : PySem.W.nsIn K mainGlobals "isinstance" = some none)
    (z_len : PySem.W.nsIn K mainGlobals "len" = some none)
    (z_all : PySem.W.nsIn K mainGlobals "all" = some none)
    (z_range : PySem.W.nsIn K mainGlobals "range" = some none)
    (z_zip : PySem.W.nsIn K mainGlobals "zip" = some none)
    (z_int : PySem.W.nsIn K mainGlobals "int" = some none)
    (z_str : PySem.W.nsIn K mainGlobals "str" = some none)
    (z_bool : PySem.W.nsIn K mainGlobals "bool" = some none)
    (z_tuple : PySem.W.nsIn K mainGlobals "tuple" = some none)
    (z_list : PySem.W.nsIn K mainGlobals "list" = some none)
    (z_abs : PySem.W.nsIn K mainGlobals "abs" = some none)
    (z_max : PySem.W.nsIn K mainGlobals "max" = some none)
    (z_enumerate : PySem.W.nsIn K mainGlobals "enumerate" = some none)
    (z_sorted : PySem.W.nsIn K mainGlobals "sorted" = some none)
    (z_sum : PySem.W.nsIn K mainGlobals "sum" = some none)
    (z_min : PySem.W.nsIn K mainGlobals "min" = some none)
    (z_any : PySem.W.nsIn K mainGlobals "any" = some none)
    (z_repr : PySem.W.nsIn K mainGlobals "repr" = some none)
    (z_ord : PySem.W.nsIn K mainGlobals "ord" = some none)
    (z_dict : PySem.W.nsIn K mainGlobals "dict" = some none)
    (z_set : PySem.W.nsIn K mainGlobals "set" = some none)
    (z_ValueError : PySem.W.nsIn K mainGlobals "ValueError" = some none)
    : ∃ fd : FuncData, (∀ (s : Shared) (v : Value), BindsTo s fd ⟨[v], []⟩ [("_law_script", v)]) ∧ ∀ base : Heap, K.In base → base.Ns mainGlobals mg → FnOk l.prog w K mg base CX0 14 fa fd ["_law_script"] (spLaw K) := by
  have e0 := hfa.symm.trans (PySem.W.mg_of X G I_law.a)
  cases e0
  have B : Blt mg := ⟨PySem.W.mg_none_of X G z_isinstance, PySem.W.mg_none_of X G z_len, PySem.W.mg_none_of X G z_all, PySem.W.mg_none_of X G z_range, PySem.W.mg_none_of X G z_zip, PySem.W.mg_none_of X G z_int, PySem.W.mg_none_of X G z_str, PySem.W.mg_none_of X G z_bool, PySem.W.mg_none_of X G z_tuple, PySem.W.mg_none_of X G z_list, PySem.W.mg_none_of X G z_abs, PySem.W.mg_none_of X G z_max, PySem.W.mg_none_of X G z_enumerate, PySem.W.mg_none_of X G z_sorted, PySem.W.mg_none_of X G z_sum, PySem.W.mg_none_of X G z_min, PySem.W.mg_none_of X G z_any, PySem.W.mg_none_of X G z_repr, PySem.W.mg_none_of X G z_ord, PySem.W.mg_none_of X G z_dict, PySem.W.mg_none_of X G z_set, PySem.W.mg_none_of X G z_ValueError⟩
  obtain ⟨fd_law, Q_law⟩ := I_law.def
  obtain ⟨fd__law_pot, Q__law_pot⟩ := I__law_pot.def
  obtain ⟨fd__law_is, Q__law_is⟩ := I__law_is.def
  obtain ⟨fd_bare_sheet, Q_bare_sheet⟩ := I_bare_sheet.def
  obtain ⟨fd__law_sheet, Q__law_sheet⟩ := I__law_sheet.def
  obtain ⟨fd__law_any, Q__law_any⟩ := I__law_any.def
  obtain ⟨fd__law_draw, Q__law_draw⟩ := I__law_draw.def
  obtain ⟨fd__law_name, Q__law_name⟩ := I__law_name.def
  obtain ⟨fd__law_base, Q__law_base⟩ := I__law_base.def
  obtain ⟨fd__law_edit, Q__law_edit⟩ := I__law_edit.def
  obtain ⟨fd__law_text, Q__law_text⟩ := I__law_text.def
  obtain ⟨fd__law_signs, Q__law_signs⟩ := I__law_signs.def
  obtain ⟨fd__law_note, Q__law_note⟩ := I__law_note.def
  obtain ⟨fd__law_flag, Q__law_flag⟩ := I__law_flag.def
  obtain ⟨fd_is_sheet, Q_is_sheet⟩ := I_is_sheet.def
  obtain ⟨fd_is_tuple_of, Q_is_tuple_of⟩ := I_is_tuple_of.def
  obtain ⟨fd_is_count, Q_is_count⟩ := I_is_count.def
  obtain ⟨fd_is_integer, Q_is_integer⟩ := I_is_integer.def
  obtain ⟨fd_are_rows, Q_are_rows⟩ := I_are_rows.def
  obtain ⟨fd_are_all, Q_are_all⟩ := I_are_all.def
  obtain ⟨fd_is_number, Q_is_number⟩ := I_is_number.def
  obtain ⟨fd_is_name, Q_is_name⟩ := I_is_name.def
  obtain ⟨fd_is_base, Q_is_base⟩ := I_is_base.def
  obtain ⟨fd_is_edit, Q_is_edit⟩ := I_is_edit.def
  obtain ⟨fd_is_stamp, Q_is_stamp⟩ := I_is_stamp.def
  obtain ⟨fd_is_client, Q_is_client⟩ := I_is_client.def
  obtain ⟨fd_is_between, Q_is_between⟩ := I_is_between.def
  obtain ⟨fd_is_text, Q_is_text⟩ := I_is_text.def
  obtain ⟨fd_has_word, Q_has_word⟩ := I_has_word.def
  obtain ⟨fd_are_ascending, Q_are_ascending⟩ := I_are_ascending.def
  obtain ⟨fd_is_note, Q_is_note⟩ := I_is_note.def
  obtain ⟨fd__law_word, Q__law_word⟩ := I__law_word.def
  obtain ⟨fd_noted_behind, Q_noted_behind⟩ := I_noted_behind.def
  obtain ⟨fd_check_sheet, Q_check_sheet⟩ := I_check_sheet.def
  obtain ⟨fd_raw_noted, Q_raw_noted⟩ := I_raw_noted.def
  obtain ⟨fd__law_behind, Q__law_behind⟩ := I__law_behind.def
  obtain ⟨fd__law_bent, Q__law_bent⟩ := I__law_bent.def
  obtain ⟨fd__law_deep, Q__law_deep⟩ := I__law_deep.def
  obtain ⟨fd__law_is_sheet, Q__law_is_sheet⟩ := I__law_is_sheet.def
  obtain ⟨fd__law_is_int, Q__law_is_int⟩ := I__law_is_int.def
  obtain ⟨fd__law_is_name, Q__law_is_name⟩ := I__law_is_name.def
  obtain ⟨fd__law_is_base, Q__law_is_base⟩ := I__law_is_base.def
  obtain ⟨fd__law_is_edit, Q__law_is_edit⟩ := I__law_is_edit.def
  obtain ⟨fd__law_is_text, Q__law_is_text⟩ := I__law_is_text.def
  obtain ⟨fd__law_is_client, Q__law_is_client⟩ := I__law_is_client.def
  obtain ⟨fd__law_is_note, Q__law_is_note⟩ := I__law_is_note.def
  refine ⟨fd_law, fun s v => ?_, fun base _ _ => ?_⟩
  · obtain ⟨oc, od, kV, doc, pm, an, cdv, ct, osl, e, _, _⟩ := Q_law.ex
    subst e
    exact .of_eq rfl
  have D__law_pot : L2.Def l.prog w K mg base 1 "_law_pot" f__law_pot fd__law_pot ["_law_script"] (SpF K F__law_pot) := def_of I__law_pot X G Q__law_pot (ok__law_pot Q__law_pot B) (Q__law_pot.binds (ps := ["_law_script"]) fun _ _ _ _ _ _ us hl => match us, hl with | [_], _ => rfl)
  have D__law_is0 : L2.Def l.prog w K mg base 1 "_law_is" f__law_is fd__law_is ["_law_told", "_law_due"] (SpF K (F_isS 0)) := def_of I__law_is X G Q__law_is (ok__law_is0 Q__law_is ) (Q__law_is.binds (ps := ["_law_told", "_law_due"]) fun _ _ _ _ _ _ us hl => match us, hl with | [_, _], _ => rfl)
  have D__law_is1 : L2.Def l.prog w K mg base 2 "_law_is" f__law_is fd__law_is ["_law_told", "_law_due"] (SpF K (F_isS 1)) := def_of I__law_is X G Q__law_is (ok__law_is Q__law_is B D__law_is0) (Q__law_is.binds (ps := ["_law_told", "_law_due"]) fun _ _ _ _ _ _ us hl => match us, hl with | [_, _], _ => rfl)
  have D__law_is2 : L2.Def l.prog w K mg base 3 "_law_is" f__law_is fd__law_is ["_law_told", "_law_due"] (SpF K (F_isS 2)) := def_of I__law_is X G Q__law_is (ok__law_is Q__law_is B D__law_is1) (Q__law_is.binds (ps := ["_law_told", "_law_due"]) fun _ _ _ _ _ _ us hl => match us, hl with | [_, _], _ => rfl)
  have D__law_is3 : L2.Def l.prog w K mg base 4 "_law_is" f__law_is fd__law_is ["_law_told", "_law_due"] (SpF K (F_isS 3)) := def_of I__law_is X G Q__law_is (ok__law_is Q__law_is B D__law_is2) (Q__law_is.binds (ps := ["_law_told", "_law_due"]) fun _ _ _ _ _ _ us hl => match us, hl with | [_, _], _ => rfl)
  have D__law_is4 : L2.Def l.prog w K mg base 5 "_law_is" f__law_is fd__law_is ["_law_told", "_law_due"] (SpF K (F_isS 4)) := def_of I__law_is X G Q__law_is (ok__law_is Q__law_is B D__law_is3) (Q__law_is.binds (ps := ["_law_told", "_law_due"]) fun _ _ _ _ _ _ us hl => match us, hl with | [_, _], _ => rfl)
  have D__law_is5 : L2.Def l.prog w K mg base 6 "_law_is" f__law_is fd__law_is ["_law_told", "_law_due"] (SpF K (F_isS 5)) := def_of I__law_is X G Q__law_is (ok__law_is Q__law_is B D__law_is4) (Q__law_is.binds (ps := ["_law_told", "_law_due"]) fun _ _ _ _ _ _ us hl => match us, hl with | [_, _], _ => rfl)
  have D__law_is6 : L2.Def l.prog w K mg base 7 "_law_is" f__law_is fd__law_is ["_law_told", "_law_due"] (SpF K (F_isS 6)) := def_of I__law_is X G Q__law_is (ok__law_is Q__law_is B D__law_is5) (Q__law_is.binds (ps := ["_law_told", "_law_due"]) fun _ _ _ _ _ _ us hl => match us, hl with | [_, _], _ => rfl)
  have D__law_is7 : L2.Def l.prog w K mg base 8 "_law_is" f__law_is fd__law_is ["_law_told", "_law_due"] (SpF K (F_isS 7)) := def_of I__law_is X G Q__law_is (ok__law_is Q__law_is B D__law_is6) (Q__law_is.binds (ps := ["_law_told", "_law_due"]) fun _ _ _ _ _ _ us hl => match us, hl with | [_, _], _ => rfl)
  have D__law_is8 : L2.Def l.prog w K mg base 9 "_law_is" f__law_is fd__law_is ["_law_told", "_law_due"] (SpF K (F_isS 8)) := def_of I__law_is X G Q__law_is (ok__law_is Q__law_is B D__law_is7) (Q__law_is.binds (ps := ["_law_told", "_law_due"]) fun _ _ _ _ _ _ us hl => match us, hl with | [_, _], _ => rfl)
  have C_BARE_SHEET := PySem.W.mg_of X G N_BARE_SHEET
  have Z_BARE_SHEET : ∀ I, Dl.Dp K I (.ref a_BARE_SHEET) (.tuple [.int 0, .int 0, .tuple []]) := fun I => (.tup (U_a_BARE_SHEET.sq I) (.cons (.int 0) (.cons (.int 0) (.cons (.tup (U_at3.sq I) .nil) .nil))))
  have D_bare_sheet : L2.Def l.prog w K mg base 1 "bare_sheet" f_bare_sheet fd_bare_sheet [] (SpF K F_bare_sheet) := def_of I_bare_sheet X G Q_bare_sheet (ok_bare_sheet Q_bare_sheet C_BARE_SHEET Z_BARE_SHEET) (Q_bare_sheet.binds (ps := []) fun _ _ _ _ _ _ us hl => match us, hl with | [], _ => rfl)
  have D__law_draw : L2.Def l.prog w K mg base 1 "_law_draw" f__law_draw fd__law_draw ["_law_pot_here", "_law_many"] (SpF K F__law_draw) := def_of I__law_draw X G Q__law_draw (ok__law_draw Q__law_draw B) (Q__law_draw.binds (ps := ["_law_pot_here", "_law_many"]) fun _ _ _ _ _ _ us hl => match us, hl with | [_, _], _ => rfl)
  have D__law_any : L2.Def l.prog w K mg base 2 "_law_any" f__law_any fd__law_any ["_law_pot_here", "_law_things"] (SpF K F__law_any) := def_of I__law_any X G Q__law_any (ok__law_any Q__law_any B D__law_draw) (Q__law_any.binds (ps := ["_law_pot_here", "_law_things"]) fun _ _ _ _ _ _ us hl => match us, hl with | [_, _], _ => rfl)
  have D__law_name : L2.Def l.prog w K mg base 3 "_law_name" f__law_name fd__law_name ["_law_pot_here"] (SpF K F__law_name) := def_of I__law_name X G Q__law_name (ok__law_name Q__law_name B D__law_any D__law_draw) (Q__law_name.binds (ps := ["_law_pot_here"]) fun _ _ _ _ _ _ us hl => match us, hl with | [_], _ => rfl)
  have D__law_base : L2.Def l.prog w K mg base 3 "_law_base" f__law_base fd__law_base ["_law_pot_here"] (SpF K (FPd (Gd isBase 1))) := def_of I__law_base X G Q__law_base (ok__law_base Q__law_base D__law_draw D__law_any) (Q__law_base.binds (ps := ["_law_pot_here"]) fun _ _ _ _ _ _ us hl => match us, hl with | [_], _ => rfl)
  have D__law_signs : L2.Def l.prog w K mg base 2 "_law_signs" f__law_signs fd__law_signs ["_law_pot_here", "_law_many"] (SpF K F__law_signs) := def_of I__law_signs X G Q__law_signs (ok__law_signs Q__law_signs B D__law_draw) (Q__law_signs.binds (ps := ["_law_pot_here", "_law_many"]) fun _ _ _ _ _ _ us hl => match us, hl with | [_, _], _ => rfl)
  have D__law_text : L2.Def l.prog w K mg base 3 "_law_text" f__law_text fd__law_text ["_law_pot_here"] (SpF K F__law_text) := def_of I__law_text X G Q__law_text (ok__law_text Q__law_text D__law_signs D__law_any) (Q__law_text.binds (ps := ["_law_pot_here"]) fun _ _ _ _ _ _ us hl => match us, hl with | [_], _ => rfl)
  have D__law_edit : L2.Def l.prog w K mg base 4 "_law_edit" f__law_edit fd__law_edit ["_law_pot_here"] (SpF K (FPd (Gd isEdit 1))) := def_of I__law_edit X G Q__law_edit (ok__law_edit Q__law_edit D__law_name D__law_draw D__law_any D__law_text) (Q__law_edit.binds (ps := ["_law_pot_here"]) fun _ _ _ _ _ _ us hl => match us, hl with | [_], _ => rfl)
  have D__law_sheet : L2.Def l.prog w K mg base 5 "_law_sheet" f__law_sheet fd__law_sheet ["_law_pot_here"] (SpF K (FPd GdS)) := def_of I__law_sheet X G Q__law_sheet (ok__law_sheet Q__law_sheet B D__law_any D__law_draw D__law_name D__law_base D__law_edit) (Q__law_sheet.binds (ps := ["_law_pot_here"]) fun _ _ _ _ _ _ us hl => match us, hl with | [_], _ => rfl)
  have D__law_note : L2.Def l.prog w K mg base 6 "_law_note" f__law_note fd__law_note ["_law_pot_here", "_law_sheet_here"] (SpF K F_note) := def_of I__law_note X G Q__law_note (ok__law_note Q__law_note B D__law_any D__law_name D__law_base D__law_edit D__law_sheet) (Q__law_note.binds (ps := ["_law_pot_here", "_law_sheet_here"]) fun _ _ _ _ _ _ us hl => match us, hl with | [_, _], _ => rfl)
  have D__law_flag : L2.Def l.prog w K mg base 1 "_law_flag" f__law_flag fd__law_flag ["_law_told", "_law_due"] (SpF K F_flag) := def_of I__law_flag X G Q__law_flag (ok__law_flag Q__law_flag B) (Q__law_flag.binds (ps := ["_law_told", "_law_due"]) fun _ _ _ _ _ _ us hl => match us, hl with | [_, _], _ => rfl)
  have C_BOOT := PySem.W.mg_of X G N_BOOT
  have C_NUMBER := PySem.W.mg_of X G N_NUMBER
  have C_PENDING := PySem.W.mg_of X G N_PENDING
  have D_is_tuple_of : L2.Def l.prog w K mg base 1 "is_tuple_of" f_is_tuple_of fd_is_tuple_of ["thing", "many"] (SpF K F_is_tuple_of) := def_of I_is_tuple_of X G Q_is_tuple_of (ok_is_tuple_of Q_is_tuple_of B) (Q_is_tuple_of.binds (ps := ["thing", "many"]) fun _ _ _ _ _ _ us hl => match us, hl with | [_, _], _ => rfl)
  have D_is_integer : L2.Def l.prog w K mg base 1 "is_integer" f_is_integer fd_is_integer ["thing"] (SpF K F_is_integer) := def_of I_is_integer X G Q_is_integer (ok_is_integer Q_is_integer B) (Q_is_integer.binds (ps := ["thing"]) fun _ _ _ _ _ _ us hl => match us, hl with | [_], _ => rfl)
  have D_is_count : L2.Def l.prog w K mg base 2 "is_count" f_is_count fd_is_count ["thing"] (SpF K F_is_count) := def_of I_is_count X G Q_is_count (ok_is_count Q_is_count D_is_integer) (Q_is_count.binds (ps := ["thing"]) fun _ _ _ _ _ _ us hl => match us, hl with | [_], _ => rfl)
  let tabR : Tab := tabOf [(f_is_number, isNumber), (f_is_name, isName), (f_is_base, isBase), (f_is_edit, isEdit)]
  have tR_is_number : tabR f_is_number = some isNumber := tabOf_pos rfl
  have tR_is_name : tabR f_is_name = some isName := (tabOf_neg (I_is_number.ne I_is_name (by decide +kernel))).trans (tabOf_pos rfl)
  have tR_is_base : tabR f_is_base = some isBase := (tabOf_neg (I_is_number.ne I_is_base (by decide +kernel))).trans ((tabOf_neg (I_is_name.ne I_is_base (by decide +kernel))).trans (tabOf_pos rfl))
  have tR_is_edit : tabR f_is_edit = some isEdit := (tabOf_neg (I_is_number.ne I_is_edit (by decide +kernel))).trans ((tabOf_neg (I_is_name.ne I_is_edit (by decide +kernel))).trans ((tabOf_neg (I_is_base.ne I_is_edit (by decide +kernel))).trans (tabOf_pos rfl)))
  have D_is_number : L2.Def l.prog w K mg base 2 "is_number" f_is_number fd_is_number ["thing"] (SpF K (FJ any' isNumber)) := def_of I_is_number X G Q_is_number (ok_is_number Q_is_number D_is_integer) (Q_is_number.binds (ps := ["thing"]) fun _ _ _ _ _ _ us hl => match us, hl with | [_], _ => rfl)
  have C_MOST_IN_NAME := PySem.W.mg_of X G N_MOST_IN_NAME
  have C_SIGNS := PySem.W.mg_of X G N_SIGNS
  have D_is_name : L2.Def l.prog w K mg base 1 "is_name" f_is_name fd_is_name ["thing"] (SpF K (FJ fit isName)) := def_of I_is_name X G Q_is_name (ok_is_name Q_is_name B C_MOST_IN_NAME C_SIGNS) (Q_is_name.binds (ps := ["thing"]) fun _ _ _ _ _ _ us hl => match us, hl with | [_], _ => rfl)
  have C_FIRST_STAMP := PySem.W.mg_of X G N_FIRST_STAMP
  have Z_FIRST_STAMP : ∀ I, Dl.Dp K I (.ref a_FIRST_STAMP) (.tuple [.int 0, .int 0, .int 0]) := fun I => (.tup (U_a_FIRST_STAMP.sq I) (.cons (.int 0) (.cons (.int 0) (.cons (.int 0) .nil))))
  have C_MOST_CLIENTS := PySem.W.mg_of X G N_MOST_CLIENTS
  have D_is_between : L2.Def l.prog w K mg base 2 "is_between" f_is_between fd_is_between ["thing", "least", "most"] (SpF K F_is_between) := def_of I_is_between X G Q_is_between (ok_is_between Q_is_between D_is_integer) (Q_is_between.binds (ps := ["thing", "least", "most"]) fun _ _ _ _ _ _ us hl => match us, hl with | [_, _, _], _ => rfl)
  have D_is_client : L2.Def l.prog w K mg base 3 "is_client" f_is_client fd_is_client ["thing"] (SpF K (FJ any' isClient)) := def_of I_is_client X G Q_is_client (ok_is_client Q_is_client C_MOST_CLIENTS D_is_between) (Q_is_client.binds (ps := ["thing"]) fun _ _ _ _ _ _ us hl => match us, hl with | [_], _ => rfl)
  have D_is_stamp : L2.Def l.prog w K mg base 4 "is_stamp" f_is_stamp fd_is_stamp ["thing"] (SpF K (FJ fit isStamp)) := def_of I_is_stamp X G Q_is_stamp (ok_is_stamp Q_is_stamp C_FIRST_STAMP Z_FIRST_STAMP B D_is_tuple_of D_is_count D_is_number D_is_client) (Q_is_stamp.binds (ps := ["thing"]) fun _ _ _ _ _ _ us hl => match us, hl with | [_], _ => rfl)
  have D_is_base : L2.Def l.prog w K mg base 5 "is_base" f_is_base fd_is_base ["thing"] (SpF K (FJ fit isBase)) := def_of I_is_base X G Q_is_base (ok_is_base Q_is_base D_is_stamp) (Q_is_base.binds (ps := ["thing"]) fun _ _ _ _ _ _ us hl => match us, hl with | [_], _ => rfl)
  have C_EDITS := PySem.W.mg_of X G N_EDITS
  have K_EDITS := T_EDITS.d
  let tabE : Tab := tabOf [(f_is_text, isText), (f_is_count, isCount), (f_is_name, isName), (f_is_client, isClient), (f_is_number, isNumber)]
  have tE_is_text : tabE f_is_text = some isText := tabOf_pos rfl
  have tE_is_count : tabE f_is_count = some isCount := (tabOf_neg (I_is_text.ne I_is_count (by decide +kernel))).trans (tabOf_pos rfl)
  have tE_is_name : tabE f_is_name = some isName := (tabOf_neg (I_is_text.ne I_is_name (by decide +kernel))).trans ((tabOf_neg (I_is_count.ne I_is_name (by decide +kernel))).trans (tabOf_pos rfl))
  have tE_is_client : tabE f_is_client = some isClient := (tabOf_neg (I_is_text.ne I_is_client (by decide +kernel))).trans ((tabOf_neg (I_is_count.ne I_is_client (by decide +kernel))).trans ((tabOf_neg (I_is_name.ne I_is_client (by decide +kernel))).trans (tabOf_pos rfl)))
  have tE_is_number : tabE f_is_number = some isNumber := (tabOf_neg (I_is_text.ne I_is_number (by decide +kernel))).trans ((tabOf_neg (I_is_count.ne I_is_number (by decide +kernel))).trans ((tabOf_neg (I_is_name.ne I_is_number (by decide +kernel))).trans ((tabOf_neg (I_is_client.ne I_is_number (by decide +kernel))).trans (tabOf_pos rfl))))
  have QEDITS : TabK K w tabE a_EDITS editTests := by
    refine ⟨fun z hz => T_EDITS.no fun m => ?_, fun z ps hz => ?_⟩
    · simp only [List.mem_cons, List.not_mem_nil, or_false] at m
      rcases m with rfl | rfl | rfl | rfl | rfl | rfl
      · have q : (editTests "put").isSome = true := by rfl
        rw [hz] at q; cases q
      · have q : (editTests "splice").isSome = true := by rfl
        rw [hz] at q; cases q
      · have q : (editTests "remove").isSome = true := by rfl
        rw [hz] at q; cases q
      · have q : (editTests "take").isSome = true := by rfl
        rw [hz] at q; cases q
      · have q : (editTests "adopt").isSome = true := by rfl
        rw [hz] at q; cases q
      · have q : (editTests "drop").isSome = true := by rfl
        rw [hz] at q; cases q
    · simp only [editTests] at hz
      by_cases c0 : ("put" : Str) = z
      · subst c0
        have hz' : some [isText] = some ps := hz
        cases hz'
        exact ⟨e_EDITS0, [.ref f_is_text], V_EDITS0, T_EDITS.yes V_EDITS0, fun H => W_EDITS0.sq H, (.cons ⟨_, rfl, tE_is_text⟩ .nil)⟩
      rw [if_neg c0] at hz
      by_cases c1 : ("splice" : Str) = z
      · subst c1
        have hz' : some [isCount, isCount, isText] = some ps := hz
        cases hz'
        exact ⟨e_EDITS1, [.ref f_is_count, .ref f_is_count, .ref f_is_text], V_EDITS1, T_EDITS.yes V_EDITS1, fun H => W_EDITS1.sq H, (.cons ⟨_, rfl, tE_is_count⟩ (.cons ⟨_, rfl, tE_is_count⟩ (.cons ⟨_, rfl, tE_is_text⟩ .nil)))⟩
      rw [if_neg c1] at hz
      by_cases c2 : ("remove" : Str) = z
      · subst c2
        have hz' : some [] = some ps := hz
        cases hz'
        exact ⟨e_EDITS2, [], V_EDITS2, T_EDITS.yes V_EDITS2, fun H => W_EDITS2.sq H, .nil⟩
      rw [if_neg c2] at hz
      by_cases c3 : ("take" : Str) = z
      · subst c3
        have hz' : some [isName] = some ps := hz
        cases hz'
        exact ⟨e_EDITS3, [.ref f_is_name], V_EDITS3, T_EDITS.yes V_EDITS3, fun H => W_EDITS3.sq H, (.cons ⟨_, rfl, tE_is_name⟩ .nil)⟩
      rw [if_neg c3] at hz
      by_cases c4 : ("adopt" : Str) = z
      · subst c4
        have hz' : some [isClient, isNumber] = some ps := hz
        cases hz'
        exact ⟨e_EDITS4, [.ref f_is_client, .ref f_is_number], V_EDITS4, T_EDITS.yes V_EDITS4, fun H => W_EDITS4.sq H, (.cons ⟨_, rfl, tE_is_client⟩ (.cons ⟨_, rfl, tE_is_number⟩ .nil))⟩
      rw [if_neg c4] at hz
      by_cases c5 : ("drop" : Str) = z
      · subst c5
        have hz' : some [isClient, isNumber] = some ps := hz
        cases hz'
        exact ⟨e_EDITS5, [.ref f_is_client, .ref f_is_number], V_EDITS5, T_EDITS.yes V_EDITS5, fun H => W_EDITS5.sq H, (.cons ⟨_, rfl, tE_is_client⟩ (.cons ⟨_, rfl, tE_is_number⟩ .nil))⟩
      rw [if_neg c5] at hz
      cases hz
  have D_has_word : L2.Def l.prog w K mg base 1 "has_word" f_has_word fd_has_word ["thing"] (SpF K (FJ any' isWord)) := def_of I_has_word X G Q_has_word (ok_has_word Q_has_word B) (Q_has_word.binds (ps := ["thing"]) fun _ _ _ _ _ _ us hl => match us, hl with | [_], _ => rfl)
  have C_MOST_IN_TEXT := PySem.W.mg_of X G N_MOST_IN_TEXT
  have D_is_text : L2.Def l.prog w K mg base 1 "is_text" f_is_text fd_is_text ["thing"] (SpF K (FJ fit isText)) := def_of I_is_text X G Q_is_text (ok_is_text Q_is_text B C_MOST_IN_TEXT) (Q_is_text.binds (ps := ["thing"]) fun _ _ _ _ _ _ us hl => match us, hl with | [_], _ => rfl)
  have HSE : ∀ f sp, judgeS K tabE f = some sp → L2.Held l.prog w K mg base 3 f sp := hs_of fun q hq => by
    simp only [List.mem_cons, List.not_mem_nil, or_false] at hq
    rcases hq with rfl | rfl | rfl | rfl | rfl
    · exact held_of D_is_text (by decide) (fun _ h => h)
    · exact held_of D_is_count (by decide) (fun _ _ => rfl)
    · exact held_of D_is_name (by decide) (fun _ h => h)
    · exact held_of D_is_client (by decide) (fun _ _ => rfl)
    · exact held_of D_is_number (by decide) (fun _ _ => rfl)
  have D_are_allE : L2.Def l.prog w K mg base 4 "are_all" f_are_all fd_are_all ["things", "tests"] (SpF K (F_are_all tabE)) := def_of I_are_all X G Q_are_all (ok_are_all Q_are_all HSE B) (Q_are_all.binds (ps := ["things", "tests"]) fun _ _ _ _ _ _ us hl => match us, hl with | [_, _], _ => rfl)
  have D_is_edit : L2.Def l.prog w K mg base 5 "is_edit" f_is_edit fd_is_edit ["thing"] (SpF K (FJ fit isEdit)) := def_of I_is_edit X G Q_is_edit (ok_is_edit Q_is_edit C_EDITS K_EDITS QEDITS D_has_word D_are_allE) (Q_is_edit.binds (ps := ["thing"]) fun _ _ _ _ _ _ us hl => match us, hl with | [_], _ => rfl)
  have HSR : ∀ f sp, judgeS K tabR f = some sp → L2.Held l.prog w K mg base 5 f sp := hs_of fun q hq => by
    simp only [List.mem_cons, List.not_mem_nil, or_false] at hq
    rcases hq with rfl | rfl | rfl | rfl
    · exact held_of D_is_number (by decide) (fun _ _ => rfl)
    · exact held_of D_is_name (by decide) (fun _ h => h)
    · exact held_of D_is_base (by decide) (fun _ h => h)
    · exact held_of D_is_edit (by decide) (fun _ h => h)
  have D_are_allR : L2.Def l.prog w K mg base 6 "are_all" f_are_all fd_are_all ["things", "tests"] (SpF K (F_are_all tabR)) := def_of I_are_all X G Q_are_all (ok_are_all Q_are_all HSR B) (Q_are_all.binds (ps := ["things", "tests"]) fun _ _ _ _ _ _ us hl => match us, hl with | [_, _], _ => rfl)
  have D_are_ascending : L2.Def l.prog w K mg base 1 "are_ascending" f_are_ascending fd_are_ascending ["things"] (SpF K F_are_ascending) := def_of I_are_ascending X G Q_are_ascending (ok_are_ascending Q_are_ascending B) (Q_are_ascending.binds (ps := ["things"]) fun _ _ _ _ _ _ us hl => match us, hl with | [_], _ => rfl)
  have D_are_rowsR : L2.Def l.prog w K mg base 7 "are_rows" f_are_rows fd_are_rows ["thing", "tests", "size"] (SpF K (F_are_rows tabR)) := def_of I_are_rows X G Q_are_rows (ok_are_rows Q_are_rows (by decide) B D_are_allR D_are_ascending) (Q_are_rows.binds (ps := ["thing", "tests", "size"]) fun _ _ _ _ _ _ us hl => match us, hl with | [_, _, _], _ => rfl)
  have D_is_sheet : L2.Def l.prog w K mg base 8 "is_sheet" f_is_sheet fd_is_sheet ["thing"] (SpF K (FJ fit isSheet)) := def_of I_is_sheet X G Q_is_sheet (ok_is_sheet Q_is_sheet B C_BOOT C_NUMBER C_PENDING D_is_tuple_of D_is_count D_are_rowsR D_is_number D_is_name D_is_base D_is_edit tR_is_number tR_is_name tR_is_base tR_is_edit) (Q_is_sheet.binds (ps := ["thing"]) fun _ _ _ _ _ _ us hl => match us, hl with | [_], _ => rfl)
  have C_NOTES := PySem.W.mg_of X G N_NOTES
  have K_NOTES := T_NOTES.d
  let tabN : Tab := tabOf [(f_is_name, isName), (f_is_base, isBase), (f_is_edit, isEdit), (f_is_number, isNumber), (f_is_sheet, isSheet)]
  have tN_is_name : tabN f_is_name = some isName := tabOf_pos rfl
  have tN_is_base : tabN f_is_base = some isBase := (tabOf_neg (I_is_name.ne I_is_base (by decide +kernel))).trans (tabOf_pos rfl)
  have tN_is_edit : tabN f_is_edit = some isEdit := (tabOf_neg (I_is_name.ne I_is_edit (by decide +kernel))).trans ((tabOf_neg (I_is_base.ne I_is_edit (by decide +kernel))).trans (tabOf_pos rfl))
  have tN_is_number : tabN f_is_number = some isNumber := (tabOf_neg (I_is_name.ne I_is_number (by decide +kernel))).trans ((tabOf_neg (I_is_base.ne I_is_number (by decide +kernel))).trans ((tabOf_neg (I_is_edit.ne I_is_number (by decide +kernel))).trans (tabOf_pos rfl)))
  have tN_is_sheet : tabN f_is_sheet = some isSheet := (tabOf_neg (I_is_name.ne I_is_sheet (by decide +kernel))).trans ((tabOf_neg (I_is_base.ne I_is_sheet (by decide +kernel))).trans ((tabOf_neg (I_is_edit.ne I_is_sheet (by decide +kernel))).trans ((tabOf_neg (I_is_number.ne I_is_sheet (by decide +kernel))).trans (tabOf_pos rfl))))
  have QNOTES : TabK K w tabN a_NOTES noteTests := by
    refine ⟨fun z hz => T_NOTES.no fun m => ?_, fun z ps hz => ?_⟩
    · simp only [List.mem_cons, List.not_mem_nil, or_false] at m
      rcases m with rfl | rfl | rfl | rfl
      · have q : (noteTests "boot").isSome = true := by rfl
        rw [hz] at q; cases q
      · have q : (noteTests "write").isSome = true := by rfl
        rw [hz] at q; cases q
      · have q : (noteTests "settled").isSome = true := by rfl
        rw [hz] at q; cases q
      · have q : (noteTests "stand").isSome = true := by rfl
        rw [hz] at q; cases q
    · simp only [noteTests] at hz
      by_cases c0 : ("boot" : Str) = z
      · subst c0
        have hz' : some [] = some ps := hz
        cases hz'
        exact ⟨e_NOTES0, [], V_NOTES0, T_NOTES.yes V_NOTES0, fun H => W_NOTES0.sq H, .nil⟩
      rw [if_neg c0] at hz
      by_cases c1 : ("write" : Str) = z
      · subst c1
        have hz' : some [isName, isBase, isEdit] = some ps := hz
        cases hz'
        exact ⟨e_NOTES1, [.ref f_is_name, .ref f_is_base, .ref f_is_edit], V_NOTES1, T_NOTES.yes V_NOTES1, fun H => W_NOTES1.sq H, (.cons ⟨_, rfl, tN_is_name⟩ (.cons ⟨_, rfl, tN_is_base⟩ (.cons ⟨_, rfl, tN_is_edit⟩ .nil)))⟩
      rw [if_neg c1] at hz
      by_cases c2 : ("settled" : Str) = z
      · subst c2
        have hz' : some [isNumber] = some ps := hz
        cases hz'
        exact ⟨e_NOTES2, [.ref f_is_number], V_NOTES2, T_NOTES.yes V_NOTES2, fun H => W_NOTES2.sq H, (.cons ⟨_, rfl, tN_is_number⟩ .nil)⟩
      rw [if_neg c2] at hz
      by_cases c3 : ("stand" : Str) = z
      · subst c3
        have hz' : some [isSheet] = some ps := hz
        cases hz'
        exact ⟨e_NOTES3, [.ref f_is_sheet], V_NOTES3, T_NOTES.yes V_NOTES3, fun H => W_NOTES3.sq H, (.cons ⟨_, rfl, tN_is_sheet⟩ .nil)⟩
      rw [if_neg c3] at hz
      cases hz
  have HSN : ∀ f sp, judgeS K tabN f = some sp → L2.Held l.prog w K mg base 8 f sp := hs_of fun q hq => by
    simp only [List.mem_cons, List.not_mem_nil, or_false] at hq
    rcases hq with rfl | rfl | rfl | rfl | rfl
    · exact held_of D_is_name (by decide) (fun _ h => h)
    · exact held_of D_is_base (by decide) (fun _ h => h)
    · exact held_of D_is_edit (by decide) (fun _ h => h)
    · exact held_of D_is_number (by decide) (fun _ _ => rfl)
    · exact held_of D_is_sheet (by decide) (fun _ h => h)
  have D_are_allN : L2.Def l.prog w K mg base 9 "are_all" f_are_all fd_are_all ["things", "tests"] (SpF K (F_are_all tabN)) := def_of I_are_all X G Q_are_all (ok_are_all Q_are_all HSN B) (Q_are_all.binds (ps := ["things", "tests"]) fun _ _ _ _ _ _ us hl => match us, hl with | [_, _], _ => rfl)
  have D_is_note : L2.Def l.prog w K mg base 10 "is_note" f_is_note fd_is_note ["thing"] (SpF K (FJ fit isNote)) := def_of I_is_note X G Q_is_note (ok_is_note Q_is_note C_NOTES K_NOTES QNOTES D_has_word D_are_allN) (Q_is_note.binds (ps := ["thing"]) fun _ _ _ _ _ _ us hl => match us, hl with | [_], _ => rfl)
  have X_LeaseError := EX_LeaseError.d X G
  have X_NoSheet := EX_NoSheet.d X G
  have X_NoNote := EX_NoNote.d X G
  have D_check_sheet : L2.DefX l.prog w K mg base 9 "check_sheet" f_check_sheet fd_check_sheet ["thing"] (SpX K (F_check_sheetX C_NoSheet)) := defX_of I_check_sheet X G Q_check_sheet (ok_check_sheet Q_check_sheet X_NoSheet D_is_sheet) (Q_check_sheet.binds (ps := ["thing"]) fun _ _ _ _ _ _ us hl => match us, hl with | [_], _ => rfl)
  have D_raw_noted : L2.Def l.prog w K mg base 1 "raw_noted" f_raw_noted fd_raw_noted ["sheet", "deed"] (SpF K F_raw_noted) := def_of I_raw_noted X G Q_raw_noted (ok_raw_noted Q_raw_noted B) (Q_raw_noted.binds (ps := ["sheet", "deed"]) fun _ _ _ _ _ _ us hl => match us, hl with | [_, _], _ => rfl)
  have D_noted_behind : L2.DefX l.prog w K mg base 11 "noted_behind" f_noted_behind fd_noted_behind ["sheet", "deed"] (SpX K (F_noted_behindX C_NoSheet C_NoNote)) := defX_of I_noted_behind X G Q_noted_behind (ok_noted_behind Q_noted_behind X_NoNote D_check_sheet D_is_note D_raw_noted) (Q_noted_behind.binds (ps := ["sheet", "deed"]) fun _ _ _ _ _ _ us hl => match us, hl with | [_, _], _ => rfl)
  have D__law_word : L2.Def l.prog w K mg base 12 "_law_word" f__law_word fd__law_word ["_law_sheet_here", "_law_deed"] (SpF K F_word) := def_of I__law_word X G Q__law_word (ok__law_word Q__law_word B X_LeaseError X_NoSheet X_NoNote D_noted_behind EF_LeaseError_NoSheet EF_LeaseError_NoNote EN_NoSheet_NoNote EN_NoNote_NoSheet) (Q__law_word.binds (ps := ["_law_sheet_here", "_law_deed"]) fun _ _ _ _ _ _ us hl => match us, hl with | [_, _], _ => rfl)
  have D__law_behind : L2.Def l.prog w K mg base 1 "_law_behind" f__law_behind fd__law_behind ["_law_sheet_here", "_law_deed"] (SpF K F_behindS) := def_of I__law_behind X G Q__law_behind (ok__law_behind Q__law_behind ) (Q__law_behind.binds (ps := ["_law_sheet_here", "_law_deed"]) fun _ _ _ _ _ _ us hl => match us, hl with | [_, _], _ => rfl)
  have D__law_bent0 : L2.Def l.prog w K mg base 4 "_law_bent" f__law_bent fd__law_bent ["_law_pot_here", "_law_thing"] (SpF K (F_bent 0)) := def_of I__law_bent X G Q__law_bent (ok__law_bent0 Q__law_bent ) (Q__law_bent.binds (ps := ["_law_pot_here", "_law_thing"]) fun _ _ _ _ _ _ us hl => match us, hl with | [_, _], _ => rfl)
  have D__law_deep : L2.Def l.prog w K mg base 3 "_law_deep" f__law_deep fd__law_deep ["_law_pot_here"] (SpF K (FPd (fun d => sm 100 B12 d = true))) := def_of I__law_deep X G Q__law_deep (ok__law_deep Q__law_deep B D__law_any D__law_draw) (Q__law_deep.binds (ps := ["_law_pot_here"]) fun _ _ _ _ _ _ us hl => match us, hl with | [_], _ => rfl)
  have D__law_bent1 : L2.Def l.prog w K mg base 5 "_law_bent" f__law_bent fd__law_bent ["_law_pot_here", "_law_thing"] (SpF K (F_bent 1)) := def_of I__law_bent X G Q__law_bent (ok__law_bent Q__law_bent B D__law_draw D__law_bent0 D__law_any D__law_deep) (Q__law_bent.binds (ps := ["_law_pot_here", "_law_thing"]) fun _ _ _ _ _ _ us hl => match us, hl with | [_, _], _ => rfl)
  have D__law_bent2 : L2.Def l.prog w K mg base 6 "_law_bent" f__law_bent fd__law_bent ["_law_pot_here", "_law_thing"] (SpF K (F_bent 2)) := def_of I__law_bent X G Q__law_bent (ok__law_bent Q__law_bent B D__law_draw D__law_bent1 D__law_any D__law_deep) (Q__law_bent.binds (ps := ["_law_pot_here", "_law_thing"]) fun _ _ _ _ _ _ us hl => match us, hl with | [_, _], _ => rfl)
  have D__law_bent3 : L2.Def l.prog w K mg base 7 "_law_bent" f__law_bent fd__law_bent ["_law_pot_here", "_law_thing"] (SpF K (F_bent 3)) := def_of I__law_bent X G Q__law_bent (ok__law_bent Q__law_bent B D__law_draw D__law_bent2 D__law_any D__law_deep) (Q__law_bent.binds (ps := ["_law_pot_here", "_law_thing"]) fun _ _ _ _ _ _ us hl => match us, hl with | [_, _], _ => rfl)
  have D__law_bent4 : L2.Def l.prog w K mg base 8 "_law_bent" f__law_bent fd__law_bent ["_law_pot_here", "_law_thing"] (SpF K (F_bent 4)) := def_of I__law_bent X G Q__law_bent (ok__law_bent Q__law_bent B D__law_draw D__law_bent3 D__law_any D__law_deep) (Q__law_bent.binds (ps := ["_law_pot_here", "_law_thing"]) fun _ _ _ _ _ _ us hl => match us, hl with | [_, _], _ => rfl)
  have D__law_bent5 : L2.Def l.prog w K mg base 9 "_law_bent" f__law_bent fd__law_bent ["_law_pot_here", "_law_thing"] (SpF K (F_bent 5)) := def_of I__law_bent X G Q__law_bent (ok__law_bent Q__law_bent B D__law_draw D__law_bent4 D__law_any D__law_deep) (Q__law_bent.binds (ps := ["_law_pot_here", "_law_thing"]) fun _ _ _ _ _ _ us hl => match us, hl with | [_, _], _ => rfl)
  have D__law_bent6 : L2.Def l.prog w K mg base 10 "_law_bent" f__law_bent fd__law_bent ["_law_pot_here", "_law_thing"] (SpF K (F_bent 6)) := def_of I__law_bent X G Q__law_bent (ok__law_bent Q__law_bent B D__law_draw D__law_bent5 D__law_any D__law_deep) (Q__law_bent.binds (ps := ["_law_pot_here", "_law_thing"]) fun _ _ _ _ _ _ us hl => match us, hl with | [_, _], _ => rfl)
  have D__law_is_int : L2.Def l.prog w K mg base 1 "_law_is_int" f__law_is_int fd__law_is_int ["_law_thing", "_law_least"] (SpF K F_is_int) := def_of I__law_is_int X G Q__law_is_int (ok__law_is_int Q__law_is_int B) (Q__law_is_int.binds (ps := ["_law_thing", "_law_least"]) fun _ _ _ _ _ _ us hl => match us, hl with | [_, _], _ => rfl)
  have D__law_is_name : L2.Def l.prog w K mg base 1 "_law_is_name" f__law_is_name fd__law_is_name ["_law_thing"] (SpF K (FJ fit isName)) := def_of I__law_is_name X G Q__law_is_name (ok__law_is_name Q__law_is_name B) (Q__law_is_name.binds (ps := ["_law_thing"]) fun _ _ _ _ _ _ us hl => match us, hl with | [_], _ => rfl)
  have D__law_is_base : L2.Def l.prog w K mg base 2 "_law_is_base" f__law_is_base fd__law_is_base ["_law_thing"] (SpF K (FJ fit isBase)) := def_of I__law_is_base X G Q__law_is_base (ok__law_is_base Q__law_is_base B D__law_is_int) (Q__law_is_base.binds (ps := ["_law_thing"]) fun _ _ _ _ _ _ us hl => match us, hl with | [_], _ => rfl)
  have D__law_is_text : L2.Def l.prog w K mg base 1 "_law_is_text" f__law_is_text fd__law_is_text ["_law_thing"] (SpF K (FJ fit isText)) := def_of I__law_is_text X G Q__law_is_text (ok__law_is_text Q__law_is_text B) (Q__law_is_text.binds (ps := ["_law_thing"]) fun _ _ _ _ _ _ us hl => match us, hl with | [_], _ => rfl)
  have D__law_is_client : L2.Def l.prog w K mg base 2 "_law_is_client" f__law_is_client fd__law_is_client ["_law_thing"] (SpF K (FJ fit isClient)) := def_of I__law_is_client X G Q__law_is_client (ok__law_is_client Q__law_is_client D__law_is_int) (Q__law_is_client.binds (ps := ["_law_thing"]) fun _ _ _ _ _ _ us hl => match us, hl with | [_], _ => rfl)
  have D__law_is_edit : L2.Def l.prog w K mg base 3 "_law_is_edit" f__law_is_edit fd__law_is_edit ["_law_thing"] (SpF K (FJ fit isEdit)) := def_of I__law_is_edit X G Q__law_is_edit (ok__law_is_edit Q__law_is_edit B D__law_is_text D__law_is_name D__law_is_int D__law_is_client) (Q__law_is_edit.binds (ps := ["_law_thing"]) fun _ _ _ _ _ _ us hl => match us, hl with | [_], _ => rfl)
  have D__law_is_sheet : L2.Def l.prog w K mg base 4 "_law_is_sheet" f__law_is_sheet fd__law_is_sheet ["_law_thing"] (SpF K (FJ fit isSheet)) := def_of I__law_is_sheet X G Q__law_is_sheet (ok__law_is_sheet Q__law_is_sheet B D__law_is_int D__law_is_name D__law_is_base D__law_is_edit) (Q__law_is_sheet.binds (ps := ["_law_thing"]) fun _ _ _ _ _ _ us hl => match us, hl with | [_], _ => rfl)
  have D__law_is_note : L2.Def l.prog w K mg base 5 "_law_is_note" f__law_is_note fd__law_is_note ["_law_thing"] (SpF K (FJ fit isNote)) := def_of I__law_is_note X G Q__law_is_note (ok__law_is_note Q__law_is_note B D__law_is_name D__law_is_base D__law_is_edit D__law_is_int D__law_is_sheet) (Q__law_is_note.binds (ps := ["_law_thing"]) fun _ _ _ _ _ _ us hl => match us, hl with | [_], _ => rfl)
  exact (ok_law Q_law B D__law_pot D__law_is8 D_bare_sheet D__law_sheet D__law_note D__law_flag D_is_sheet D_is_note D__law_word D__law_behind D__law_bent6 D__law_is_sheet D__law_is_note).imp fun vs H Q E h => spLaw_of h
end Pr
set_option Elab.async false
set_option linter.all false
set_option maxRecDepth 100000
set_option maxHeartbeats 0
set_option pp.maxSteps 60
section
open PySem PySem.W PyProof.Rows
theorem PySem.Challenge.cw_leasefiles_k18_sheets_and_notes_judged_holds : PySem.Challenge.rw_leasefiles_k18_sheets_and_notes_judged.Holds := by
  refine Hd.top (Dl.walkH (l := PySem.Challenge.rw_leasefiles_k18_sheets_and_notes_judged) (k := 14) rfl (by kernel_rfl) (by kernel_rfl) ⟨rfl, by decide, by decide⟩ ?F)
  case F =>
    intro w K mg fa h X c G hmg
    exact Pr.all_mk X G hmg
      ((Dl.df_is (st := Pr.s_law) (c.x 0 (f := .df "law") rfl) (c.f 0 (d := Dl.fnT "law" Pr.s_law) rfl)))
      ((Dl.df_is (st := Pr.s__law_pot) (c.x 1 (f := .df "_law_pot") rfl) (c.f 1 (d := Dl.fnT "_law_pot" Pr.s__law_pot) rfl)))
      ((Dl.df_is (st := Pr.s__law_is) (c.x 2 (f := .df "_law_is") rfl) (c.f 2 (d := Dl.fnT "_law_is" Pr.s__law_is) rfl)))
      ((Dl.df_is (st := Pr.s_bare_sheet) (c.x 3 (f := .df "bare_sheet") rfl) (c.f 3 (d := Dl.fnT "bare_sheet" Pr.s_bare_sheet) rfl)))
      ((Dl.df_is (st := Pr.s__law_sheet) (c.x 4 (f := .df "_law_sheet") rfl) (c.f 4 (d := Dl.fnT "_law_sheet" Pr.s__law_sheet) rfl)))
      ((Dl.df_is (st := Pr.s__law_any) (c.x 5 (f := .df "_law_any") rfl) (c.f 5 (d := Dl.fnT "_law_any" Pr.s__law_any) rfl)))
      ((Dl.df_is (st := Pr.s__law_draw) (c.x 6 (f := .df "_law_draw") rfl) (c.f 6 (d := Dl.fnT "_law_draw" Pr.s__law_draw) rfl)))
      ((Dl.df_is (st := Pr.s__law_name) (c.x 7 (f := .df "_law_name") rfl) (c.f 7 (d := Dl.fnT "_law_name" Pr.s__law_name) rfl)))
      ((Dl.df_is (st := Pr.s__law_base) (c.x 8 (f := .df "_law_base") rfl) (c.f 8 (d := Dl.fnT "_law_base" Pr.s__law_base) rfl)))
      ((Dl.df_is (st := Pr.s__law_edit) (c.x 9 (f := .df "_law_edit") rfl) (c.f 9 (d := Dl.fnT "_law_edit" Pr.s__law_edit) rfl)))
      ((Dl.df_is (st := Pr.s__law_text) (c.x 10 (f := .df "_law_text") rfl) (c.f 10 (d := Dl.fnT "_law_text" Pr.s__law_text) rfl)))
      ((Dl.df_is (st := Pr.s__law_signs) (c.x 11 (f := .df "_law_signs") rfl) (c.f 11 (d := Dl.fnT "_law_signs" Pr.s__law_signs) rfl)))
      ((Dl.df_is (st := Pr.s__law_note) (c.x 12 (f := .df "_law_note") rfl) (c.f 12 (d := Dl.fnT "_law_note" Pr.s__law_note) rfl)))
      ((Dl.df_is (st := Pr.s__law_flag) (c.x 13 (f := .df "_law_flag") rfl) (c.f 13 (d := Dl.fnT "_law_flag" Pr.s__law_flag) rfl)))
      ((Dl.df_is (st := Pr.s_is_sheet) (c.x 14 (f := .df "is_sheet") rfl) (c.f 14 (d := Dl.fnT "is_sheet" Pr.s_is_sheet) rfl)))
      ((Dl.df_is (st := Pr.s_is_tuple_of) (c.x 15 (f := .df "is_tuple_of") rfl) (c.f 15 (d := Dl.fnT "is_tuple_of" Pr.s_is_tuple_of) rfl)))
      ((Dl.df_is (st := Pr.s_is_count) (c.x 16 (f := .df "is_count") rfl) (c.f 16 (d := Dl.fnT "is_count" Pr.s_is_count) rfl)))
      ((Dl.df_is (st := Pr.s_is_integer) (c.x 17 (f := .df "is_integer") rfl) (c.f 17 (d := Dl.fnT "is_integer" Pr.s_is_integer) rfl)))
      ((Dl.df_is (st := Pr.s_are_rows) (c.x 18 (f := .df "are_rows") rfl) (c.f 18 (d := Dl.fnT "are_rows" Pr.s_are_rows) rfl)))
      ((Dl.df_is (st := Pr.s_are_all) (c.x 19 (f := .df "are_all") rfl) (c.f 19 (d := Dl.fnT "are_all" Pr.s_are_all) rfl)))
      ((Dl.df_is (st := Pr.s_is_number) (c.x 20 (f := .df "is_number") rfl) (c.f 20 (d := Dl.fnT "is_number" Pr.s_is_number) rfl)))
      ((Dl.df_is (st := Pr.s_is_name) (c.x 21 (f := .df "is_name") rfl) (c.f 21 (d := Dl.fnT "is_name" Pr.s_is_name) rfl)))
      ((Dl.df_is (st := Pr.s_is_base) (c.x 22 (f := .df "is_base") rfl) (c.f 22 (d := Dl.fnT "is_base" Pr.s_is_base) rfl)))
      ((Dl.df_is (st := Pr.s_is_edit) (c.x 23 (f := .df "is_edit") rfl) (c.f 23 (d := Dl.fnT "is_edit" Pr.s_is_edit) rfl)))
      ((Dl.df_is (st := Pr.s_is_stamp) (c.x 24 (f := .df "is_stamp") rfl) (c.f 24 (d := Dl.fnT "is_stamp" Pr.s_is_stamp) rfl)))
      ((Dl.df_is (st := Pr.s_is_client) (c.x 25 (f := .df "is_client") rfl) (c.f 25 (d := Dl.fnT "is_client" Pr.s_is_client) rfl)))
      ((Dl.df_is (st := Pr.s_is_between) (c.x 26 (f := .df "is_between") rfl) (c.f 26 (d := Dl.fnT "is_between" Pr.s_is_between) rfl)))
      ((Dl.df_is (st := Pr.s_is_text) (c.x 27 (f := .df "is_text") rfl) (c.f 27 (d := Dl.fnT "is_text" Pr.s_is_text) rfl)))
      ((Dl.df_is (st := Pr.s_has_word) (c.x 28 (f := .df "has_word") rfl) (c.f 28 (d := Dl.fnT "has_word" Pr.s_has_word) rfl)))
      ((Dl.df_is (st := Pr.s_are_ascending) (c.x 29 (f := .df "are_ascending") rfl) (c.f 29 (d := Dl.fnT "are_ascending" Pr.s_are_ascending) rfl)))
      ((Dl.df_is (st := Pr.s_is_note) (c.x 30 (f := .df "is_note") rfl) (c.f 30 (d := Dl.fnT "is_note" Pr.s_is_note) rfl)))
      ((Dl.df_is (st := Pr.s__law_word) (c.x 31 (f := .df "_law_word") rfl) (c.f 31 (d := Dl.fnT "_law_word" Pr.s__law_word) rfl)))
      ((Dl.df_is (st := Pr.s_noted_behind) (c.x 32 (f := .df "noted_behind") rfl) (c.f 32 (d := Dl.fnT "noted_behind" Pr.s_noted_behind) rfl)))
      ((Dl.df_is (st := Pr.s_check_sheet) (c.x 33 (f := .df "check_sheet") rfl) (c.f 33 (d := Dl.fnT "check_sheet" Pr.s_check_sheet) rfl)))
      ((Dl.df_is (st := Pr.s_raw_noted) (c.x 34 (f := .df "raw_noted") rfl) (c.f 34 (d := Dl.fnT "raw_noted" Pr.s_raw_noted) rfl)))
      ((Dl.df_is (st := Pr.s__law_behind) (c.x 35 (f := .df "_law_behind") rfl) (c.f 35 (d := Dl.fnT "_law_behind" Pr.s__law_behind) rfl)))
      ((Dl.df_is (st := Pr.s__law_bent) (c.x 36 (f := .df "_law_bent") rfl) (c.f 36 (d := Dl.fnT "_law_bent" Pr.s__law_bent) rfl)))
      ((Dl.df_is (st := Pr.s__law_deep) (c.x 37 (f := .df "_law_deep") rfl) (c.f 37 (d := Dl.fnT "_law_deep" Pr.s__law_deep) rfl)))
      ((Dl.df_is (st := Pr.s__law_is_sheet) (c.x 38 (f := .df "_law_is_sheet") rfl) (c.f 38 (d := Dl.fnT "_law_is_sheet" Pr.s__law_is_sheet) rfl)))
      ((Dl.df_is (st := Pr.s__law_is_int) (c.x 39 (f := .df "_law_is_int") rfl) (c.f 39 (d := Dl.fnT "_law_is_int" Pr.s__law_is_int) rfl)))
      ((Dl.df_is (st := Pr.s__law_is_name) (c.x 40 (f := .df "_law_is_name") rfl) (c.f 40 (d := Dl.fnT "_law_is_name" Pr.s__law_is_name) rfl)))
      ((Dl.df_is (st := Pr.s__law_is_base) (c.x 41 (f := .df "_law_is_base") rfl) (c.f 41 (d := Dl.fnT "_law_is_base" Pr.s__law_is_base) rfl)))
      ((Dl.df_is (st := Pr.s__law_is_edit) (c.x 42 (f := .df "_law_is_edit") rfl) (c.f 42 (d := Dl.fnT "_law_is_edit" Pr.s__law_is_edit) rfl)))
      ((Dl.df_is (st := Pr.s__law_is_text) (c.x 43 (f := .df "_law_is_text") rfl) (c.f 43 (d := Dl.fnT "_law_is_text" Pr.s__law_is_text) rfl)))
      ((Dl.df_is (st := Pr.s__law_is_client) (c.x 44 (f := .df "_law_is_client") rfl) (c.f 44 (d := Dl.fnT "_law_is_client" Pr.s__law_is_client) rfl)))
      ((Dl.df_is (st := Pr.s__law_is_note) (c.x 45 (f := .df "_law_is_note") rfl) (c.f 45 (d := Dl.fnT "_law_is_note" Pr.s__law_is_note) rfl)))
      ((Dl.glo_ns (c.x 46 (f := .fa (.glo "BARE_SHEET")) rfl)))
      ((Dl.int_ns (c.x 47 (f := .fa (.int "BOOT" (0))) rfl)).choose_spec)
      ((Dl.int_ns (c.x 48 (f := .fa (.int "NUMBER" (1))) rfl)).choose_spec)
      ((Dl.int_ns (c.x 49 (f := .fa (.int "PENDING" (2))) rfl)).choose_spec)
      ((Dl.int_ns (c.x 50 (f := .fa (.int "MOST_IN_NAME" (8))) rfl)).choose_spec)
      ((Dl.str_ns (c.x 51 (f := .fa (.str "SIGNS" "abcdefghijklmnopqrstuvwxyz")) rfl)).choose_spec)
      ((Dl.glo_ns (c.x 52 (f := .fa (.glo "FIRST_STAMP")) rfl)))
      ((Dl.int_ns (c.x 53 (f := .fa (.int "MOST_CLIENTS" (9))) rfl)).choose_spec)
      ((Dl.glo_ns (c.x 54 (f := .fa (.glo "EDITS")) rfl)))
      ((Dl.int_ns (c.x 55 (f := .fa (.int "MOST_IN_TEXT" (96))) rfl)).choose_spec)
      ((Dl.glo_ns (c.x 56 (f := .fa (.glo "NOTES")) rfl)))
      ((Dl.tp_ns (c.x 57 (f := .tp (fun K => (He.ga K "BARE_SHEET")) [.int (0), .int (0), .adr (fun K => (Dl.itA K (He.ga K "BARE_SHEET") 2))]) rfl)))
      ((Dl.tp_ns (c.x 58 (f := .tp (fun K => (He.ga K "FIRST_STAMP")) [.int (0), .int (0), .int (0)]) rfl)))
      ((Dl.tp_ns (c.x 59 (f := .tp (fun K => (Dl.itA K (He.ga K "BARE_SHEET") 2)) []) rfl)))
      ((c.t 0 (t := ("EDITS", ["put", "splice", "remove", "take", "adopt", "drop"])) rfl).choose_spec.choose_spec)
      ((c.t 1 (t := ("NOTES", ["boot", "write", "settled", "stand"])) rfl).choose_spec.choose_spec)
      ((Dl.va_ns (c.x 60 (f := .va "EDITS" "put") rfl)))
      ((Dl.tp_ns (c.x 61 (f := .tp (fun K => (Dl.dvA K (He.ga K "EDITS") "put")) [.glo "is_text"]) rfl)))
      ((Dl.va_ns (c.x 62 (f := .va "EDITS" "splice") rfl)))
      ((Dl.tp_ns (c.x 63 (f := .tp (fun K => (Dl.dvA K (He.ga K "EDITS") "splice")) [.glo "is_count", .glo "is_count", .glo "is_text"]) rfl)))
      ((Dl.va_ns (c.x 64 (f := .va "EDITS" "remove") rfl)))
      ((Dl.tp_ns (c.x 65 (f := .tp (fun K => (Dl.dvA K (He.ga K "EDITS") "remove")) []) rfl)))
      ((Dl.va_ns (c.x 66 (f := .va "EDITS" "take") rfl)))
      ((Dl.tp_ns (c.x 67 (f := .tp (fun K => (Dl.dvA K (He.ga K "EDITS") "take")) [.glo "is_name"]) rfl)))
      ((Dl.va_ns (c.x 68 (f := .va "EDITS" "adopt") rfl)))
      ((Dl.tp_ns (c.x 69 (f := .tp (fun K => (Dl.dvA K (He.ga K "EDITS") "adopt")) [.glo "is_client", .glo "is_number"]) rfl)))
      ((Dl.va_ns (c.x 70 (f := .va "EDITS" "drop") rfl)))
      ((Dl.tp_ns (c.x 71 (f := .tp (fun K => (Dl.dvA K (He.ga K "EDITS") "drop")) [.glo "is_client", .glo "is_number"]) rfl)))
      ((Dl.va_ns (c.x 72 (f := .va "NOTES" "boot") rfl)))
      ((Dl.tp_ns (c.x 73 (f := .tp (fun K => (Dl.dvA K (He.ga K "NOTES") "boot")) []) rfl)))
      ((Dl.va_ns (c.x 74 (f := .va "NOTES" "write") rfl)))
      ((Dl.tp_ns (c.x 75 (f := .tp (fun K => (Dl.dvA K (He.ga K "NOTES") "write")) [.glo "is_name", .glo "is_base", .glo "is_edit"]) rfl)))
      ((Dl.va_ns (c.x 76 (f := .va "NOTES" "settled") rfl)))
      ((Dl.tp_ns (c.x 77 (f := .tp (fun K => (Dl.dvA K (He.ga K "NOTES") "settled")) [.glo "is_number"]) rfl)))
      ((Dl.va_ns (c.x 78 (f := .va "NOTES" "stand") rfl)))
      ((Dl.tp_ns (c.x 79 (f := .tp (fun K => (Dl.dvA K (He.ga K "NOTES") "stand")) [.glo "is_sheet"]) rfl)))
      ((Dl.ex_is (c.x 80 (f := .ex "LeaseError") rfl)))
      ((Dl.ex_is (c.x 81 (f := .ex "NoSheet") rfl)))
      ((Dl.ex_is (c.x 82 (f := .ex "NoNote") rfl)))
      ((Dl.ef_is (c.x 83 (f := .ef "LeaseError" "NoSheet") rfl)))
      ((Dl.ef_is (c.x 84 (f := .ef "LeaseError" "NoNote") rfl)))
      ((Dl.en_is (c.x 85 (f := .en "NoSheet" "NoNote") rfl)))
      ((Dl.en_is (c.x 86 (f := .en "NoNote" "NoSheet") rfl)))
      ((Dl.free_ns (c.x 87 (f := .fa (.free "isinstance")) rfl)))
      ((Dl.free_ns (c.x 88 (f := .fa (.free "len")) rfl)))
      ((Dl.free_ns (c.x 89 (f := .fa (.free "all")) rfl)))
      ((Dl.free_ns (c.x 90 (f := .fa (.free "range")) rfl)))
      ((Dl.free_ns (c.x 91 (f := .fa (.free "zip")) rfl)))
      ((Dl.free_ns (c.x 92 (f := .fa (.free "int")) rfl)))
      ((Dl.free_ns (c.x 93 (f := .fa (.free "str")) rfl)))
      ((Dl.free_ns (c.x 94 (f := .fa (.free "bool")) rfl)))
      ((Dl.free_ns (c.x 95 (f := .fa (.free "tuple")) rfl)))
      ((Dl.free_ns (c.x 96 (f := .fa (.free "list")) rfl)))
      ((Dl.free_ns (c.x 97 (f := .fa (.free "abs")) rfl)))
      ((Dl.free_ns (c.x 98 (f := .fa (.free "max")) rfl)))
      ((Dl.free_ns (c.x 99 (f := .fa (.free "enumerate")) rfl)))
      ((Dl.free_ns (c.x 100 (f := .fa (.free "sorted")) rfl)))
      ((Dl.free_ns (c.x 101 (f := .fa (.free "sum")) rfl)))
      ((Dl.free_ns (c.x 102 (f := .fa (.free "min")) rfl)))
      ((Dl.free_ns (c.x 103 (f := .fa (.free "any")) rfl)))
      ((Dl.free_ns (c.x 104 (f := .fa (.free "repr")) rfl)))
      ((Dl.free_ns (c.x 105 (f := .fa (.free "ord")) rfl)))
      ((Dl.free_ns (c.x 106 (f := .fa (.free "dict")) rfl)))
      ((Dl.free_ns (c.x 107 (f := .fa (.free "set")) rfl)))
      ((Dl.free_ns (c.x 108 (f := .fa (.free "ValueError")) rfl)))
end
#print axioms PySem.Challenge.cw_leasefiles_k18_sheets_and_notes_judged_holds
