import PyProof.Rows.All
import HandS.HeadEnd
import HandS.Head2
import HandS.HeadHook3
import HandS.HeadHook4
import HandS.ExcField
import HandS.Words
import Wide.All
import OpenK.AllK
import Wide.FinOn
import HandS.ForMost
import HandS.ForExc
import HandS.Wide
import HandS.IsInst
import HandS.TupAny
import HandS.TupMul
import HandS.Zip
import HandS.Walk
import HandS.Conv
import HandS.Codes
import HandS.TryOnly
import HandS.More
import HandS.TupLe
import HandS.Steps
import HandS.Lambda
import KE.GoesEnum
import KE.GoesZip
import HandS.Style
import PyProof.Rows.SeqMore
import HandS.CallLocal
import HandS.SortInts
import HandS.SortRule
import HandS.Deep
import HandS.SetKeys
import HandS.Iter
import HandS.Rev
import PyProof.EqAt
import HandS.CallSlots
import HandS.WordsExc
import HandS.ExcInitHot
import HandS.ExcIs
import HandS.ExcCtx
import KE.KExcIs
import HandS.Text
import HandS.Replace
import HandS.Flow
import KE.KStrBytes
import KE.IntTextText
import KE.KIntText
import PyProof.Rows.StrIntSpec
import PyProof.Rows.StrMul
import PySem.Challenge.RW_lostdisk_k82_rows_that_are_none
set_option Elab.async false
set_option linter.all false
set_option maxRecDepth 100000
set_option maxHeartbeats 1000000
namespace HC
open PySem PySem.Spec L2 PyProof.Rows
def ddF (x : Str) (st : Stmt) : He.DefD := ⟨(x, none), x, x, defArgs st, defBody st, defScope st, [], []⟩
def ddI (c q : Str) (st : Stmt) : He.DefD := ⟨(c, some "__init__"), "__init__", q, defArgs st, defBody st, defScope st, [], []⟩
def ddM (c m q : Str) (st : Stmt) : He.DefD := ⟨(c, some m), m, q, defArgs st, defBody st, defScope st, [], []⟩
abbrev AlY : Type := He.AlT × Bool
def obsY0 (fa : List He.Fa) (fn : List He.DefD) (ts : List He.Tab) (ex : List (PySem.W.Frag → Bool)) (K : PySem.W.Frag) : AlY := (He.obsT fa fn ts K, ex.all fun f => f K)
def obsY (n : Nat) (fa : List He.Fa) (fn : List He.DefD) (ts : List He.Tab) (ex : List (PySem.W.Frag → Bool)) (g : Addr → Option Obj) : AlY := obsY0 fa fn ts ex (He.frG g (List.range n))
def valY (fn : List He.DefD) (ts : List He.Tab) (w : World) : AlY := (He.valT fn ts w, true)
def SaysY (fa : List He.Fa) (fn : List He.DefD) (ts : List He.Tab) (ex : List (PySem.W.Frag → Bool)) (w : World) (K : PySem.W.Frag) : Prop := obsY0 fa fn ts ex K = valY fn ts w
def hookY (n : Nat) (fa : List He.Fa) (fn : List He.DefD) (ts : List He.Tab) (ex : List (PySem.W.Frag → Bool)) : PySem.W.Hook where
  α := AlY
  obs := fun s => obsY n fa fn ts ex s.heap.get?
  val := fun w => valY fn ts w
  says := fun w h => ∃ K : PySem.W.Frag, K.In h ∧ SaysY fa fn ts ex w K
  of := fun _ _ e => ⟨_, He.frG_in, e⟩
  keeps := fun _ _ _ ⟨K, hK, c⟩ k => ⟨K, PySem.W.Frag.In.keeps hK k, c⟩
theorem obsY_eq {n : Nat} {fa : List He.Fa} {fn : List He.DefD} {ts : List He.Tab} {ex : List (PySem.W.Frag → Bool)} {g : Addr → Option Obj} {s : Shared} (h : ∀ a, g a = s.heap.get? a) : obsY n fa fn ts ex g = (hookY n fa fn ts ex).obs s := by
  have e : g = s.heap.get? := funext h
  rw [e] <;> rfl
def oexB (x : Str) : PySem.W.Frag → Bool := fun K => (match K.lookup (He.ga K x) with
  | some ⟨.type c, _, .cls cd, sl⟩ => decide (c = "type") && ((match cd.mro, sl.toList with
    | .ref C' :: bm, [_, _, _, _, some (.builtin n), _] => decide (C' = He.ga K x) && (decide (n = "ValueError.__new__") && (cd.hasDict && (!cd.hasDel && PySem.HandSPX.refsVE bm)))
    | _, _ => false))
  | _ => false) && (He.eqO (PySem.W.findIn K (.ref (He.ga K x)) "__setattr__") (some (some (.builtin "object.__setattr__"))) && (decide (PySem.W.subIn K (.ref (He.ga K x)) (.type "BaseException") = some true) &&
    (decide (PySem.W.typeIn K (.ref (He.ga K x)) = some (.type "type")) && PySem.W.keepIn K (.ref (He.ga K x)))))
def initB (x : Str) : PySem.W.Frag → Bool := fun K => He.eqO (PySem.W.findIn K (.ref (He.ga K x)) "__init__") (some (some (.ref (He.ma K (He.ga K x) "__init__")))) && decide (PySem.W.typeIn K (.ref (He.ma K (He.ga K x) "__init__")) = some (.type "function"))
def xckB (x : Str) : PySem.W.Frag → Bool := fun K => (PySem.W.clsIn K (He.ga K x)).isSome && (He.eqO (PySem.W.findIn K (.ref (He.ga K x)) "__getattribute__") (some (some (.builtin "BaseException.__getattribute__"))) && (He.eqO (PySem.W.findIn K (.ref (He.ga K x)) "__getattr__") (some none) &&
  (decide (PySem.W.subIn K (.ref (He.ga K x)) (.type "BaseException") = some true) && (He.eqO (PySem.W.findIn K (.ref (He.ga K x)) "__class__") (some (some (.builtin "object.__class__"))) && (He.eqO (PySem.W.specialIn K (.builtin "object.__class__") "__get__") (some (some (.builtin "getset_descriptor.__get__"))) &&
  (decide (PySem.W.takesIn K (.builtin "object.__class__") = some true) && decide (PySem.W.mroIn K (He.ga K x) (.type "object") = some true)))))))
def kitQV (K : PySem.W.Frag) : Option Str → Value
  | none => .type "ValueError"
  | some y => .ref (He.ga K y)
def kitQB (x : Str) (y : Option Str) (b : Bool) : PySem.W.Frag → Bool := fun K => decide (PySem.W.kitOne K (.ref (He.ga K x)) (kitQV K y) = some b)
def knB (y : Option Str) : PySem.W.Frag → Bool := fun K => decide (PySem.W.kitOne K (.type "NoneType") (kitQV K y) = some false)
def xfcB (x : Str) : PySem.W.Frag → Bool := fun K => L2.xfB K (He.ga K x)
section
open HandSHeadRun
variable {E : Option PySem.W.SharedT} {n : Nat} {fa : List He.Fa} {ts : List He.Tab} {ex : List (PySem.W.Frag → Bool)} {w : World}
theorem obs_add {fn fn2 : List He.DefD} {K : PySem.W.Frag} (h1 : obsY0 fa fn ts ex K = valY fn ts w) (h2 : obsY0 [] fn2 [] [] K = valY fn2 [] w) : obsY0 fa (fn ++ fn2) ts ex K = valY (fn ++ fn2) ts w := by
  have a1 : ((fa.all fun f => f.ok K) && fn.all fun d => d.ok K) = true := congrArg (fun z : AlY => z.1.1.1) h1
  have a2 : fn.map (fun d => He.fnW K d.at_) = fn.map He.DefD.val := congrArg (fun z : AlY => z.1.1.2) h1
  have a3 : ts.map (fun t => He.dicW K (t.1 K)) = ts.map fun t => some (He.keysIn w.params t.2) := congrArg (fun z : AlY => z.1.2) h1
  have a4 : (ex.all fun f => f K) = true := congrArg (fun z : AlY => z.2) h1
  have b1 : (([] : List He.Fa).all (fun f => f.ok K) && fn2.all fun d => d.ok K) = true := congrArg (fun z : AlY => z.1.1.1) h2
  have b2 : fn2.map (fun d => He.fnW K d.at_) = fn2.map He.DefD.val := congrArg (fun z : AlY => z.1.1.2) h2
  obtain ⟨c1, c2⟩ := Bool.and_eq_true_iff.mp a1
  have c3 := (Bool.and_eq_true_iff.mp b1).2
  show ((((fa.all fun f => f.ok K) && (fn ++ fn2).all fun d => d.ok K, (fn ++ fn2).map fun d => He.fnW K d.at_), ts.map fun t => He.dicW K (t.1 K)), ex.all fun f => f K) = (((true, (fn ++ fn2).map He.DefD.val), ts.map fun t => some (He.keysIn w.params t.2)), true)
  rw [List.all_append, List.map_append, List.map_append, c1, c2, c3, a2, a3, a4, b2]
  rfl
theorem run_add {fn fn2 : List He.DefD} (h1 : E.map (fun s => obsY n fa fn ts ex (getT s)) = some (valY fn ts w)) (h2 : E.map (fun s => obsY n [] fn2 [] [] (getT s)) = some (valY fn2 [] w)) :
    E.map (fun s => obsY n fa (fn ++ fn2) ts ex (getT s)) = some (valY (fn ++ fn2) ts w) := by
  cases E with
  | none => cases h1
  | some s => exact congrArg some (obs_add (Option.some.inj h1) (Option.some.inj h2))
theorem run_join3 {α β γ : Type} {f : PySem.W.SharedT → α} {g : PySem.W.SharedT → β} {k : PySem.W.SharedT → γ} {a : α} {b : β} {c : γ} (h1 : E.map (fun s => (f s, g s)) = some (a, b)) (h2 : E.map k = some c) : E.map (fun s => (f s, g s, k s)) = some (a, b, c) := by
  cases E with
  | none => cases h1
  | some s =>
    have e := Option.some.inj h1
    have e1 : f s = a := congrArg Prod.fst e
    have e2 : g s = b := congrArg Prod.snd e
    have e3 : k s = c := Option.some.inj h2
    show some (f s, g s, k s) = _
    rw [e1, e2, e3]
end
end HC
namespace Law
open PySem PySem.Spec L2 HC PyProof.Rows
set_option maxHeartbeats 0
def top (i : Nat) : Stmt := PySem.Challenge.pw_lostdisk_k82_rows_that_are_none.main.body.getD i (.Pass ⟨0, 0, 0, 0⟩)
def innerOf (s : Stmt) (j : Nat) : Stmt := match s with | .ClassDef _ _ _ b _ _ _ _ _ _ _ => b.getD j (.Pass ⟨0, 0, 0, 0⟩) | _ => s
abbrev s_law_next : Stmt := top 39
abbrev s_law_one_of : Stmt := top 41
abbrev s_law_bad_block : Stmt := top 49
abbrev s_law_bad_number : Stmt := top 48
abbrev s_law_bad_row : Stmt := top 50
abbrev s_law_block : Stmt := top 43
abbrev s_law_count : Stmt := top 40
abbrev s_law_disk : Stmt := top 44
abbrev s_law_head : Stmt := top 42
abbrev s_law_pot : Stmt := top 38
abbrev s_Draft___init__ : Stmt := innerOf (top 35) 0
abbrev s_block_in : Stmt := top 34
abbrev s_is_block_text : Stmt := top 33
abbrev s_Draft_put_disk : Stmt := innerOf (top 35) 1
abbrev s_number_in : Stmt := top 31
abbrev s_numbers_in : Stmt := top 32
abbrev s_Draft_put_head : Stmt := innerOf (top 35) 3
abbrev s_Draft_put_note : Stmt := innerOf (top 35) 2
abbrev s_Draft_put : Stmt := innerOf (top 35) 4
abbrev s_Draft_whole : Stmt := innerOf (top 35) 5
abbrev s_is_whole : Stmt := top 20
abbrev s_is_between : Stmt := top 21
abbrev s_is_block : Stmt := top 22
abbrev s_is_disk : Stmt := top 23
abbrev s_are_widths : Stmt := top 24
abbrev s_is_head : Stmt := top 25
abbrev s_is_note : Stmt := top 26
abbrev s_is_journal : Stmt := top 27
abbrev s_is_store : Stmt := top 28
abbrev s_read_store : Stmt := top 36
abbrev s_law_refused : Stmt := top 47
abbrev s_law_block_text : Stmt := top 45
abbrev s_law_rows : Stmt := top 46
abbrev s_law : Stmt := top 51
abbrev si_NoText : Stmt := innerOf (top 13) 0
def faL0 : List He.Fa := [.glo ("law" : Str), .free ("ValueError" : Str), .free ("all" : Str), .free ("bool" : Str), .free ("enumerate" : Str), .free ("int" : Str), .free ("isinstance" : Str), .free ("len" : Str), .free ("list" : Str), .free ("min" : Str), .free ("range" : Str), .free ("str" : Str), .free ("tuple" : Str), .free ("zip" : Str), .str ("FIGURES" : Str) ("0123456789abcdef" : Str), .int ("MOST_BYTE" : Str) 255, .int ("MOST_DISKS" : Str) 10, .int ("MOST_FIGURES" : Str) 12, .int ("MOST_ROWS" : Str) 24, .int ("MOST_SIZE" : Str) 16, .glo ("_law_next" : Str), .glo ("_law_one_of" : Str), .glo ("_law_bad_block" : Str), .glo ("_law_bad_number" : Str), .glo ("_law_bad_row" : Str), .glo ("_law_block" : Str), .glo ("_law_count" : Str), .glo ("_law_disk" : Str), .glo ("_law_head" : Str), .glo ("_law_pot" : Str)]
def faL1 : List He.Fa := [.mkr ("Draft" : Str), .glo ("block_in" : Str), .glo ("is_block_text" : Str), .meth ("Draft" : Str) ("put_disk" : Str), .glo ("number_in" : Str), .glo ("numbers_in" : Str), .meth ("Draft" : Str) ("put_head" : Str), .meth ("Draft" : Str) ("put_note" : Str), .meth ("Draft" : Str) ("put" : Str), .meth ("Draft" : Str) ("whole" : Str), .glo ("is_whole" : Str), .glo ("is_between" : Str), .glo ("is_block" : Str), .glo ("is_disk" : Str), .glo ("are_widths" : Str), .glo ("is_head" : Str), .glo ("is_note" : Str), .glo ("is_journal" : Str), .glo ("is_store" : Str), .glo ("read_store" : Str), .glo ("_law_refused" : Str), .glo ("_law_block_text" : Str), .glo ("_law_rows" : Str), .glo ("Draft" : Str), .cls ("Draft" : Str), .noat ("Draft" : Str) ("disks" : Str), .noat ("Draft" : Str) ("head" : Str), .noat ("Draft" : Str) ("notes" : Str), .glo ("NoText" : Str), .noat ("NoText" : Str) ("row" : Str)]
def faL2 : List He.Fa := [.exm ("NoText" : Str) ("DiskError" : Str) true, .glo ("Gone" : Str), .glo ("Growing" : Str), .glo ("Halfway" : Str), .glo ("Lost" : Str), .glo ("NoPlace" : Str), .glo ("NoSpare" : Str), .glo ("NoStore" : Str), .glo ("NotGrowing" : Str), .glo ("There" : Str), .glo ("TooFew" : Str), .glo ("Untold" : Str), .glo ("DiskError" : Str)]
def faL : List He.Fa := faL0 ++ faL1 ++ faL2
def fnL0 : List He.DefD := [ddF ("_law_next" : Str) s_law_next, ddF ("_law_one_of" : Str) s_law_one_of, ddF ("_law_bad_block" : Str) s_law_bad_block, ddF ("_law_bad_number" : Str) s_law_bad_number, ddF ("_law_bad_row" : Str) s_law_bad_row, ddF ("_law_block" : Str) s_law_block, ddF ("_law_count" : Str) s_law_count, ddF ("_law_disk" : Str) s_law_disk, ddF ("_law_head" : Str) s_law_head, ddF ("_law_pot" : Str) s_law_pot, ddM ("Draft" : Str) ("__init__" : Str) ("Draft.__init__" : Str) s_Draft___init__, ddF ("block_in" : Str) s_block_in, ddF ("is_block_text" : Str) s_is_block_text, ddM ("Draft" : Str) ("put_disk" : Str) ("Draft.put_disk" : Str) s_Draft_put_disk, ddF ("number_in" : Str) s_number_in, ddF ("numbers_in" : Str) s_numbers_in, ddM ("Draft" : Str) ("put_head" : Str) ("Draft.put_head" : Str) s_Draft_put_head, ddM ("Draft" : Str) ("put_note" : Str) ("Draft.put_note" : Str) s_Draft_put_note, ddM ("Draft" : Str) ("put" : Str) ("Draft.put" : Str) s_Draft_put, ddM ("Draft" : Str) ("whole" : Str) ("Draft.whole" : Str) s_Draft_whole, ddF ("is_whole" : Str) s_is_whole, ddF ("is_between" : Str) s_is_between, ddF ("is_block" : Str) s_is_block, ddF ("is_disk" : Str) s_is_disk, ddF ("are_widths" : Str) s_are_widths, ddF ("is_head" : Str) s_is_head, ddF ("is_note" : Str) s_is_note, ddF ("is_journal" : Str) s_is_journal, ddF ("is_store" : Str) s_is_store, ddF ("read_store" : Str) s_read_store, ddF ("_law_refused" : Str) s_law_refused, ddF ("_law_block_text" : Str) s_law_block_text, ddF ("_law_rows" : Str) s_law_rows, ddF ("law" : Str) s_law, ddI ("NoText" : Str) ("NoText.__init__" : Str) si_NoText]
def fnL : List He.DefD := fnL0
def tsL0 : List He.Tab := []
def tsL : List He.Tab := tsL0
def exL0 : List (PySem.W.Frag → Bool) := [oexB ("NoText" : Str), initB ("NoText" : Str), xckB ("NoText" : Str), xfcB ("NoText" : Str), kitQB ("NoText" : Str) (some ("Gone" : Str)) false, kitQB ("NoText" : Str) (some ("Growing" : Str)) false, kitQB ("NoText" : Str) (some ("Halfway" : Str)) false, kitQB ("NoText" : Str) (some ("Lost" : Str)) false, kitQB ("NoText" : Str) (some ("NoPlace" : Str)) false, kitQB ("NoText" : Str) (some ("NoSpare" : Str)) false, kitQB ("NoText" : Str) (some ("NoStore" : Str)) false, kitQB ("NoText" : Str) (some ("NoText" : Str)) true, kitQB ("NoText" : Str) (some ("NotGrowing" : Str)) false, kitQB ("NoText" : Str) (some ("There" : Str)) false, kitQB ("NoText" : Str) (some ("TooFew" : Str)) false, kitQB ("NoText" : Str) (some ("Untold" : Str)) false, kitQB ("NoText" : Str) none true, knB (some ("Gone" : Str)), knB (some ("Growing" : Str)), knB (some ("Halfway" : Str)), knB (some ("Lost" : Str)), knB (some ("NoPlace" : Str)), knB (some ("NoSpare" : Str)), knB (some ("NoStore" : Str)), knB (some ("NoText" : Str)), knB (some ("NotGrowing" : Str)), knB (some ("There" : Str)), knB (some ("TooFew" : Str)), knB (some ("Untold" : Str)), knB none]
def exL : List (PySem.W.Frag → Bool) := exL0
def nmL0 : List Str := [("DiskError" : Str), ("NoPlace" : Str), ("Halfway" : Str), ("Gone" : Str), ("There" : Str), ("NoSpare" : Str), ("Growing" : Str), ("NotGrowing" : Str), ("TooFew" : Str), ("NoStore" : Str), ("Lost" : Str), ("Untold" : Str), ("NoText" : Str), ("FIGURES" : Str), ("MOST_DISKS" : Str), ("MOST_ROWS" : Str), ("MOST_SIZE" : Str), ("MOST_BYTE" : Str), ("is_whole" : Str), ("is_between" : Str), ("is_block" : Str), ("is_disk" : Str), ("are_widths" : Str), ("is_head" : Str), ("is_note" : Str), ("is_journal" : Str), ("is_store" : Str), ("MOST_FIGURES" : Str), ("number_in" : Str), ("numbers_in" : Str)]
def nmL1 : List Str := [("is_block_text" : Str), ("block_in" : Str), ("Draft" : Str), ("read_store" : Str), ("_law_pot" : Str), ("_law_next" : Str), ("_law_count" : Str), ("_law_one_of" : Str), ("_law_head" : Str), ("_law_block" : Str), ("_law_disk" : Str), ("_law_block_text" : Str), ("_law_rows" : Str), ("_law_refused" : Str), ("_law_bad_number" : Str), ("_law_bad_block" : Str), ("_law_bad_row" : Str)]
def nmL : List Str := nmL0 ++ nmL1
abbrev RL : PySem.W.OpenRow := PySem.W.OpenLaw.row PySem.Challenge.rw_lostdisk_k82_rows_that_are_none
abbrev hkL : PySem.W.Hook := hookY 2000 faL fnL tsL exL
def obL (s : PySem.W.SharedT) : AlY := obsY 2000 faL fnL tsL exL (HandSHeadRun.getT s)
theorem obL_eq (s : PySem.W.SharedT) : obL s = hkL.obs s.abs := obsY_eq (HandSHeadRun.getT_eq s)
open PySem.W PySem.Calls in
theorem runAF (w : World) (os : OsState) : ((HandSHeadRun.endF (HandSHeadRun.stepQ (HandSHeadRun.denQ HandSHeadRun.tabQ) RL.prog (w.withFollow "special-get-raises" false)) 30000 RL.prog (w.withFollow "special-get-raises" false) os).map fun s => (HandSHeadRun.looksF RL.prog (boot_heap (World.params (w.withFollow "special-get-raises" false))) s.abs, HandSHeadRun.seenQ (PySem.W.view RL.prog [51]) nmL (importedModules RL.prog.main.body) (fun s => PySem.W.xlAt (PySem.W.view RL.prog [51]) [] s && PySem.W.recOk RL.toRowW.records s) s.abs)) = some (true, PySem.W.openGood (PySem.W.view RL.prog [51]) nmL) := by
  kernel_rfl
theorem runBF (w : World) (os : OsState) : ((HandSHeadRun.endF (HandSHeadRun.stepQ (HandSHeadRun.denQ HandSHeadRun.tabQ) RL.prog (w.withFollow "special-get-raises" false)) 30000 RL.prog (w.withFollow "special-get-raises" false) os).map fun s => obsY 2000 faL [] tsL exL (HandSHeadRun.getT s)) = some (valY [] tsL (w.withFollow "special-get-raises" false)) := by
  kernel_rfl
theorem run0F (w : World) (os : OsState) : ((HandSHeadRun.endF (HandSHeadRun.stepQ (HandSHeadRun.denQ HandSHeadRun.tabQ) RL.prog (w.withFollow "special-get-raises" false)) 30000 RL.prog (w.withFollow "special-get-raises" false) os).map fun s => obsY 2000 [] fnL0 [] [] (HandSHeadRun.getT s)) = some (valY fnL0 [] (w.withFollow "special-get-raises" false)) := by
  kernel_rfl
theorem runJF (w : World) (os : OsState) : ((HandSHeadRun.endF (HandSHeadRun.stepQ (HandSHeadRun.denQ HandSHeadRun.tabQ) RL.prog (w.withFollow "special-get-raises" false)) 30000 RL.prog (w.withFollow "special-get-raises" false) os).map fun s => obL s) = some (valY fnL tsL (w.withFollow "special-get-raises" false)) := by
  have h := (run_add (runBF w os) (run0F w os))
  exact h
open PySem.W PySem.Calls in
theorem runKF (w : World) (os : OsState) : ((HandSHeadRun.endF (HandSHeadRun.stepQ (HandSHeadRun.denQ HandSHeadRun.tabQ) RL.prog (w.withFollow "special-get-raises" false)) 30000 RL.prog (w.withFollow "special-get-raises" false) os).map fun s => (HandSHeadRun.looksF RL.prog (boot_heap (World.params (w.withFollow "special-get-raises" false))) s.abs, HandSHeadRun.seenQ (PySem.W.view RL.prog [51]) nmL (importedModules RL.prog.main.body) (fun s => PySem.W.xlAt (PySem.W.view RL.prog [51]) [] s && PySem.W.recOk RL.toRowW.records s) s.abs, obL s)) = some (true, PySem.W.openGood (PySem.W.view RL.prog [51]) nmL, valY fnL tsL (w.withFollow "special-get-raises" false)) := run_join3 (runAF w os) (runJF w os)
theorem runF (w : World) : HandSHeadRun.RunEq RL (PySem.W.view RL.prog [51]) hkL obL 30000 nmL (w.withFollow "special-get-raises" false) := fun os => runKF w os
open PySem.W PySem.Calls in
theorem runAT (w : World) (os : OsState) : ((HandSHeadRun.endF (HandSHeadRun.stepQ (HandSHeadRun.denQ HandSHeadRun.tabQ) RL.prog (w.withFollow "special-get-raises" true)) 30000 RL.prog (w.withFollow "special-get-raises" true) os).map fun s => (HandSHeadRun.looksF RL.prog (boot_heap (World.params (w.withFollow "special-get-raises" true))) s.abs, HandSHeadRun.seenQ (PySem.W.view RL.prog [51]) nmL (importedModules RL.prog.main.body) (fun s => PySem.W.xlAt (PySem.W.view RL.prog [51]) [] s && PySem.W.recOk RL.toRowW.records s) s.abs)) = some (true, PySem.W.openGood (PySem.W.view RL.prog [51]) nmL) := by
  kernel_rfl
theorem runBT (w : World) (os : OsState) : ((HandSHeadRun.endF (HandSHeadRun.stepQ (HandSHeadRun.denQ HandSHeadRun.tabQ) RL.prog (w.withFollow "special-get-raises" true)) 30000 RL.prog (w.withFollow "special-get-raises" true) os).map fun s => obsY 2000 faL [] tsL exL (HandSHeadRun.getT s)) = some (valY [] tsL (w.withFollow "special-get-raises" true)) := by
  kernel_rfl
theorem run0T (w : World) (os : OsState) : ((HandSHeadRun.endF (HandSHeadRun.stepQ (HandSHeadRun.denQ HandSHeadRun.tabQ) RL.prog (w.withFollow "special-get-raises" true)) 30000 RL.prog (w.withFollow "special-get-raises" true) os).map fun s => obsY 2000 [] fnL0 [] [] (HandSHeadRun.getT s)) = some (valY fnL0 [] (w.withFollow "special-get-raises" true)) := by
  kernel_rfl
theorem runJT (w : World) (os : OsState) : ((HandSHeadRun.endF (HandSHeadRun.stepQ (HandSHeadRun.denQ HandSHeadRun.tabQ) RL.prog (w.withFollow "special-get-raises" true)) 30000 RL.prog (w.withFollow "special-get-raises" true) os).map fun s => obL s) = some (valY fnL tsL (w.withFollow "special-get-raises" true)) := by
  have h := (run_add (runBT w os) (run0T w os))
  exact h
open PySem.W PySem.Calls in
theorem runKT (w : World) (os : OsState) : ((HandSHeadRun.endF (HandSHeadRun.stepQ (HandSHeadRun.denQ HandSHeadRun.tabQ) RL.prog (w.withFollow "special-get-raises" true)) 30000 RL.prog (w.withFollow "special-get-raises" true) os).map fun s => (HandSHeadRun.looksF RL.prog (boot_heap (World.params (w.withFollow "special-get-raises" true))) s.abs, HandSHeadRun.seenQ (PySem.W.view RL.prog [51]) nmL (importedModules RL.prog.main.body) (fun s => PySem.W.xlAt (PySem.W.view RL.prog [51]) [] s && PySem.W.recOk RL.toRowW.records s) s.abs, obL s)) = some (true, PySem.W.openGood (PySem.W.view RL.prog [51]) nmL, valY fnL tsL (w.withFollow "special-get-raises" true)) := run_join3 (runAT w os) (runJT w os)
theorem runT (w : World) : HandSHeadRun.RunEq RL (PySem.W.view RL.prog [51]) hkL obL 30000 nmL (w.withFollow "special-get-raises" true) := fun os => runKT w os
theorem run (w : World) : HandSHeadRun.RunEq RL (PySem.W.view RL.prog [51]) hkL obL 30000 nmL w := PySem.W.byRow2 "special-get-raises" (P := fun w => HandSHeadRun.RunEq RL (PySem.W.view RL.prog [51]) hkL obL 30000 nmL w) runF runT w
end Law
set_option maxHeartbeats 4000000
namespace HC
open PySem L2
inductive Dv where
  | non | bl (b : Bool) | int (i : Int) | str (x : Str) | ref (a : Addr) | ty (n : String)
  | tup (xs : List Dv)
  | rol (xs : List Dv)
  | tuc (xs : List Dv)
  | exc (c : Str) (f : Option Int)
inductive Cell where
  | lst (xs : List Dv)
  | dic (kvs : List (Key × Dv))
  | dit (kvs : List (List Key × Dv))
  | fdc (kvs : List (Key × Dv))
  | obj (c : Str) (fs : List (Str × Dv))
  | tab (x : Str)
  | cod (q : Str)
abbrev Ms := Addr → Option Cell
def mup (M : Ms) (a : Addr) (c : Cell) : Ms := fun b => if b = a then some c else M b
theorem mup_same {M : Ms} {a : Addr} {c : Cell} : mup M a c a = some c := if_pos rfl
theorem mup_ne {M : Ms} {a b : Addr} {c : Cell} (h : b ≠ a) : mup M a c b = M b := if_neg h
theorem mup_mup {M : Ms} {a : Addr} {c d : Cell} : mup (mup M a c) a d = mup M a d := by
  funext b; unfold mup; split <;> rfl
theorem mup_self {M : Ms} {a : Addr} {c : Cell} (h : M a = some c) : mup M a c = M := by
  funext b; unfold mup; split
  · subst b; exact h.symm
  · rfl
theorem ne_of_new {M : Ms} {a p : Addr} {c : Cell} (h : M a = some c) (h' : M p = none) : a ≠ p := by
  intro e; subst e; rw [h] at h'; cases h'
def SqF (K : PySem.W.Frag) (H : Hp) (a : Addr) (xs : List V) : Prop := (∃ o, H a = some (.frz o (.lst xs))) ∨ SqL K (fun _ => none) a xs
theorem SqF.l {K : PySem.W.Frag} {H : Hp} {a : Addr} {xs : List V} (h : SqF K H a xs) : SqL K H a xs := by
  rcases h with ⟨o, h⟩ | h
  · exact .inl (.inr ⟨o, h⟩)
  · rcases h with (h | ⟨_, h⟩) | h
    · cases h
    · cases h
    · exact .inr h
def SqC (H : Hp) (a : Addr) (xs : List V) : Prop := ∃ o : Obj, H a = some (.frz o (.tup xs)) ∧ o.dict = none
theorem SqC.t {K : PySem.W.Frag} {H : Hp} {a : Addr} {xs : List V} (h : SqC H a xs) : SqT K H a xs := by
  obtain ⟨o, h, _⟩ := h
  exact .inl (.inr ⟨o, h⟩)
def SqX (K : PySem.W.Frag) (H : Hp) (a : Addr) (c : Str) (f : Option Int) : Prop := ∃ (C : Addr) (oe : Obj) (u : HO), PySem.W.nsIn K mainGlobals c = some (some (.ref C)) ∧ H a = some (.frz oe u) ∧ oe.cls = .ref C ∧ (∃ vs, oe.data = .fields vs) ∧
  match f with
  | none => oe.dict = none
  | some r => ∃ dx od, oe.dict = some dx ∧ H dx = some (.frz od (.xd [(("row" : Str), .int r)]))
mutual
def Rep (K : PySem.W.Frag) (H : Hp) : Dv → V → Prop
  | .non, v => v = .non
  | .bl b, v => v = .bl b
  | .int i, v => v = .int i
  | .str x, v => v = .str x
  | .ref a, v => v = .ref a
  | .ty n, v => v = .ty n
  | .tup ds, v => ∃ a vs, v = .ref a ∧ SqT K H a vs ∧ Reps K H ds vs
  | .rol ds, v => ∃ a vs, v = .ref a ∧ SqF K H a vs ∧ Reps K H ds vs
  | .tuc ds, v => ∃ a vs, v = .ref a ∧ SqC H a vs ∧ Reps K H ds vs
  | .exc c f, v => ∃ a, v = .ref a ∧ SqX K H a c f
def Reps (K : PySem.W.Frag) (H : Hp) : List Dv → List V → Prop
  | [], vs => vs = []
  | d :: ds, vs => ∃ v r, vs = v :: r ∧ Rep K H d v ∧ Reps K H ds r
end
structure Tp (K : PySem.W.Frag) (H H' : Hp) : Prop where
  t : ∀ a vs, SqT K H a vs → SqT K H' a vs
  f : ∀ a vs, SqF K H a vs → SqF K H' a vs
  c : ∀ a vs, SqC H a vs → SqC H' a vs
  d : ∀ a o u, H a = some (.frz o u) → H' a = some (.frz o u)
theorem Tp.refl {K : PySem.W.Frag} (H : Hp) : Tp K H H := ⟨fun _ _ h => h, fun _ _ h => h, fun _ _ h => h, fun _ _ _ h => h⟩
theorem Tp.trans {K : PySem.W.Frag} {H H1 H2 : Hp} (a : Tp K H H1) (b : Tp K H1 H2) : Tp K H H2 := ⟨fun x vs h => b.t x vs (a.t x vs h), fun x vs h => b.f x vs (a.f x vs h), fun x vs h => b.c x vs (a.c x vs h), fun x o u h => b.d x o u (a.d x o u h)⟩
def Soft : Option HO → Prop
  | none => True
  | some (.lst _) => True
  | some (.dK _) => True
  | some (.dT _) => True
  | some (.ins _ _ _) => True
  | _ => False
theorem Tp.put {K : PySem.W.Frag} {H : Hp} {a : Addr} {o : HO} (h : Soft (H a)) : Tp K H (upd H a o) := by
  refine ⟨fun b vs q => ?_, fun b vs q => ?_, fun b vs ⟨ob, q, hd⟩ => ⟨ob, (upd_ne (fun e => by subst e; rw [q] at h; exact h)).trans q, hd⟩, fun b o u q => (upd_ne (fun e => by subst e; rw [q] at h; exact h)).trans q⟩
  · rcases q with (q | ⟨ob, q⟩) | q
    · refine .inl (.inl ?_)
      rw [upd_ne]
      · exact q
      · intro e; subst e; rw [q] at h; exact h
    · refine .inl (.inr ⟨ob, ?_⟩)
      rw [upd_ne]
      · exact q
      · intro e; subst e; rw [q] at h; exact h
    · exact .inr q
  · rcases q with ⟨ob, q⟩ | q
    · refine .inl ⟨ob, ?_⟩
      rw [upd_ne]
      · exact q
      · intro e; subst e; rw [q] at h; exact h
    · exact .inr q
theorem SqX.mono {K : PySem.W.Frag} {H H' : Hp} {a : Addr} {c : Str} {f : Option Int} (h : SqX K H a c f) (t : Tp K H H') : SqX K H' a c f := by
  obtain ⟨C, oe, u, h1, h2, h3, h4, h5⟩ := h
  refine ⟨C, oe, u, h1, t.d _ _ _ h2, h3, h4, ?_⟩
  cases f with
  | none => exact h5
  | some r =>
    obtain ⟨dx, od, e, q⟩ := h5
    exact ⟨dx, od, e, t.d _ _ _ q⟩
section
variable {K : PySem.W.Frag} {H H' : Hp}
mutual
theorem Rep.mono (t : Tp K H H') : ∀ {d : Dv} {v : V}, Rep K H d v → Rep K H' d v
  | .non, _, h => by simpa only [Rep] using h
  | .bl _, _, h => by simpa only [Rep] using h
  | .int _, _, h => by simpa only [Rep] using h
  | .str _, _, h => by simpa only [Rep] using h
  | .ref _, _, h => by simpa only [Rep] using h
  | .ty _, _, h => by simpa only [Rep] using h
  | .tup ds, _, h => by
    simp only [Rep] at h ⊢
    obtain ⟨a, vs, e, q, r⟩ := h
    exact ⟨a, vs, e, t.t _ _ q, Reps.mono t r⟩
  | .rol ds, _, h => by
    simp only [Rep] at h ⊢
    obtain ⟨a, vs, e, q, r⟩ := h
    exact ⟨a, vs, e, t.f _ _ q, Reps.mono t r⟩
  | .tuc ds, _, h => by
    simp only [Rep] at h ⊢
    obtain ⟨a, vs, e, q, r⟩ := h
    exact ⟨a, vs, e, t.c _ _ q, Reps.mono t r⟩
  | .exc c f, _, h => by
    simp only [Rep] at h ⊢
    obtain ⟨a, e, q⟩ := h
    exact ⟨a, e, q.mono t⟩
theorem Reps.mono (t : Tp K H H') : ∀ {ds : List Dv} {vs : List V}, Reps K H ds vs → Reps K H' ds vs
  | [], _, h => by simpa only [Reps] using h
  | d :: ds, _, h => by
    simp only [Reps] at h ⊢
    obtain ⟨v, r, e, q, z⟩ := h
    exact ⟨v, r, e, Rep.mono t q, Reps.mono t z⟩
end
theorem Reps.nil : Reps K H [] [] := by simp only [Reps]
theorem Reps.cons {d : Dv} {v : V} {ds : List Dv} {vs : List V} (h : Rep K H d v) (r : Reps K H ds vs) : Reps K H (d :: ds) (v :: vs) := by
  simp only [Reps]
  exact ⟨v, vs, rfl, h, r⟩
theorem Reps.cons_inv {d : Dv} {ds : List Dv} {vs : List V} (h : Reps K H (d :: ds) vs) : ∃ v r, vs = v :: r ∧ Rep K H d v ∧ Reps K H ds r := by
  simpa only [Reps] using h
theorem Reps.nil_inv {vs : List V} (h : Reps K H [] vs) : vs = [] := by simpa only [Reps] using h
theorem Reps.length : ∀ {ds : List Dv} {vs : List V}, Reps K H ds vs → ds.length = vs.length
  | [], _, h => by rw [h.nil_inv]; rfl
  | d :: ds, _, h => by
    obtain ⟨v, r, rfl, _, z⟩ := h.cons_inv
    simp [Reps.length z]
theorem Reps.append : ∀ {ds es : List Dv} {vs ws : List V}, Reps K H ds vs → Reps K H es ws → Reps K H (ds ++ es) (vs ++ ws)
  | [], _, _, _, h, h' => by rw [h.nil_inv]; exact h'
  | d :: ds, _, _, _, h, h' => by
    obtain ⟨v, r, rfl, q, z⟩ := h.cons_inv
    exact Reps.cons q (Reps.append z h')
theorem Reps.get : ∀ {ds : List Dv} {vs : List V} {i : Nat} {d : Dv}, Reps K H ds vs → ds[i]? = some d → ∃ v, vs[i]? = some v ∧ Rep K H d v
  | [], _, _, _, _, e => by simp at e
  | d :: ds, _, 0, x, h, e => by
    obtain ⟨v, r, rfl, q, z⟩ := h.cons_inv
    simp at e; subst e
    exact ⟨v, rfl, q⟩
  | d :: ds, _, i + 1, x, h, e => by
    obtain ⟨v, r, rfl, q, z⟩ := h.cons_inv
    obtain ⟨w, h1, h2⟩ := Reps.get (i := i) z (by simpa using e)
    exact ⟨w, by simpa using h1, h2⟩
theorem Reps.take : ∀ {ds : List Dv} {vs : List V} (n : Nat), Reps K H ds vs → Reps K H (ds.take n) (vs.take n)
  | _, _, 0, _ => by simpa using Reps.nil
  | [], _, n + 1, h => by rw [h.nil_inv]; simpa using Reps.nil
  | d :: ds, _, n + 1, h => by
    obtain ⟨v, r, rfl, q, z⟩ := h.cons_inv
    simpa using Reps.cons q (Reps.take n z)
theorem Reps.drop : ∀ {ds : List Dv} {vs : List V} (n : Nat), Reps K H ds vs → Reps K H (ds.drop n) (vs.drop n)
  | _, _, 0, h => by simpa using h
  | [], _, n + 1, h => by rw [h.nil_inv]; simpa using Reps.nil
  | d :: ds, _, n + 1, h => by
    obtain ⟨v, r, rfl, q, z⟩ := h.cons_inv
    simpa using Reps.drop n z
theorem Reps.set : ∀ {ds : List Dv} {vs : List V} {d : Dv} {v : V} (i : Nat), Reps K H ds vs → Rep K H d v → Reps K H (ds.set i d) (vs.set i v)
  | [], _, _, _, _, h, _ => by rw [h.nil_inv]; simpa using Reps.nil
  | d :: ds, _, _, _, 0, h, q' => by
    obtain ⟨v, r, rfl, q, z⟩ := h.cons_inv
    simpa using Reps.cons q' z
  | d :: ds, _, _, _, i + 1, h, q' => by
    obtain ⟨v, r, rfl, q, z⟩ := h.cons_inv
    simpa using Reps.cons q (Reps.set i z q')
theorem Reps.eraseIdx : ∀ {ds : List Dv} {vs : List V} (i : Nat), Reps K H ds vs → Reps K H (ds.eraseIdx i) (vs.eraseIdx i)
  | [], _, _, h => by rw [h.nil_inv]; simpa using Reps.nil
  | d :: ds, _, 0, h => by
    obtain ⟨v, r, rfl, q, z⟩ := h.cons_inv
    simpa using z
  | d :: ds, _, i + 1, h => by
    obtain ⟨v, r, rfl, q, z⟩ := h.cons_inv
    simpa using Reps.cons q (Reps.eraseIdx i z)
theorem Reps.of_ints : ∀ (ns : List Int), Reps K H (ns.map Dv.int) (ns.map V.int)
  | [] => by simpa using Reps.nil
  | n :: ns => Reps.cons (by simp only [Rep]) (Reps.of_ints ns)
theorem Reps.bools : ∀ {ns : List Bool} {vs : List V}, Reps K H (ns.map Dv.bl) vs → vs = ns.map V.bl
  | [], _, h => by simpa using h.nil_inv
  | n :: ns, _, h => by
    obtain ⟨v, r, rfl, q, z⟩ := Reps.cons_inv (d := .bl n) (ds := ns.map Dv.bl) (by simpa using h)
    have e : v = .bl n := by simpa only [Rep] using q
    rw [e, Reps.bools z]; rfl
theorem Reps.replicate {d : Dv} {v : V} (h : Rep K H d v) : ∀ (n : Nat), Reps K H (List.replicate n d) (List.replicate n v)
  | 0 => Reps.nil
  | n + 1 => Reps.cons h (Reps.replicate h n)
end
def lamQ (x : Str) : Str := x ++ ".<locals>." ++ "<lambda>"
def lamP (K : PySem.W.Frag) (x : Str) : Addr := (He.cT K (x, none)).2
def RepC (K : PySem.W.Frag) (H : Hp) (a : Addr) : Cell → Prop
  | .tab x => a = lamP K x ∧ LamX.TabS H a (lamQ x)
  | .cod q => H a = some (LamX.CodeO a q)
  | .lst ds => ∃ vs, H a = some (.lst vs) ∧ Reps K H ds vs
  | .dic kds => ∃ kvs, H a = some (.dK kvs) ∧ Paired (fun (p : Key × Dv) (q : Key × V) => p.1 = q.1 ∧ Rep K H p.2 q.2) kds kvs
  | .dit kds => ∃ kvs, H a = some (.dT kvs) ∧ Paired (fun (p : List Key × Dv) (q : List Key × V) => p.1 = q.1 ∧ Rep K H p.2 q.2) kds kvs
  | .fdc kds => ∃ kvs o, H a = some (.frz o (.dK kvs)) ∧ Paired (fun (p : Key × Dv) (q : Key × V) => p.1 = q.1 ∧ Rep K H p.2 q.2) kds kvs
  | .obj c fs => ∃ C dx vs, PySem.W.nsIn K mainGlobals c = some (some (.ref C)) ∧ H a = some (.ins C dx vs) ∧ Paired (fun (p : Str × Dv) (q : Str × V) => p.1 = q.1 ∧ Rep K H p.2 q.2) fs vs
def Cell.sf : Cell → Bool
  | .fdc _ => false
  | .tab _ => false
  | .cod _ => false
  | _ => true
def View (K : PySem.W.Frag) (M : Ms) (H : Hp) : Prop := ∀ a c, M a = some c → RepC K H a c
def Sub (M M' : Ms) : Prop := ∀ a c, M a = some c → M' a = some c
theorem Sub.refl (M : Ms) : Sub M M := fun _ _ h => h
theorem Sub.trans {M M1 M2 : Ms} (a : Sub M M1) (b : Sub M1 M2) : Sub M M2 := fun x c h => b x c (a x c h)
theorem Sub.new {M : Ms} {p : Addr} {c : Cell} (h : M p = none) : Sub M (mup M p c) := fun b d e => by
  rw [mup_ne (ne_of_new e h)]; exact e
theorem Sub.mut {M M' : Ms} {p : Addr} {c : Cell} (s : Sub M M') (h : M p = none) : Sub M (mup M' p c) := fun b d e => by
  rw [mup_ne (ne_of_new e h)]; exact s b d e
theorem Sub.free {M M' : Ms} (s : Sub M M') {p : Addr} (h : M' p = none) : M p = none := by
  cases q : M p with
  | none => rfl
  | some c => rw [s p c q] at h; cases h
theorem Sub.both {M M' : Ms} {p : Addr} {c : Cell} (s : Sub M M') : Sub (mup M p c) (mup M' p c) := fun b d e => by
  by_cases h : b = p
  · subst h; rw [mup_same] at e ⊢; exact e
  · rw [mup_ne h] at e ⊢; exact s b d e
section
variable {K : PySem.W.Frag} {M M' : Ms} {H H' : Hp} {a : Addr}
theorem View.sub (v : View K M' H) (s : Sub M M') : View K M H := fun a c e => v a c (s a c e)
theorem RepC.ne {c : Cell} (h : RepC K H a c) : H a ≠ none := by
  cases c with
  | lst ds => obtain ⟨vs, e, _⟩ := h; rw [e]; exact fun q => nomatch q
  | dic ds => obtain ⟨vs, e, _⟩ := h; rw [e]; exact fun q => nomatch q
  | dit ds => obtain ⟨vs, e, _⟩ := h; rw [e]; exact fun q => nomatch q
  | fdc ds => obtain ⟨vs, o, e, _⟩ := h; rw [e]; exact fun q => nomatch q
  | obj C ds => obtain ⟨C', dx, vs, _, e, _⟩ := h; rw [e]; exact fun q => nomatch q
  | tab x => obtain ⟨_, ps, e, _⟩ := h; rw [e]; exact fun q => nomatch q
  | cod q => have h : H a = some (LamX.CodeO a q) := h; rw [h]; exact fun q => nomatch q
theorem View.free (v : View K M H) (h : H a = none) : M a = none := by
  cases q : M a with
  | none => rfl
  | some c => exact ((v a c q).ne h).elim
theorem View.soft (v : View K M H) {c : Cell} (h : M a = some c) (hs : c.sf = true := by rfl) : Soft (H a) := by
  have r := v a c h
  cases c with
  | lst ds => obtain ⟨vs, e, _⟩ := r; rw [e]; trivial
  | dic ds => obtain ⟨vs, e, _⟩ := r; rw [e]; trivial
  | dit ds => obtain ⟨vs, e, _⟩ := r; rw [e]; trivial
  | fdc ds => cases hs
  | obj C ds => obtain ⟨C', dx, vs, _, e, _⟩ := r; rw [e]; trivial
  | tab xs => cases hs
  | cod q => cases hs
def TpE (H H' : Hp) : Prop := ∀ b o, H b = some o → ((∃ ps, o = .tbl ps) ∨ ∃ φ, o = .ext φ) → H' b = some o
theorem TpE.tab {H H' : Hp} (x : TpE H H') {P : Addr} {q : Str} (t : LamX.TabS H P q) : LamX.TabS H' P q := by
  obtain ⟨ps, h1, h2, h3⟩ := t
  refine ⟨ps, x _ _ h1 (.inl ⟨_, rfl⟩), h2, fun pos cv hc => ?_⟩
  obtain ⟨c, e1, e2⟩ := h3 pos cv hc
  exact ⟨c, e1, x _ _ e2 (.inr ⟨_, rfl⟩)⟩
theorem TpE.soft {H : Hp} {a : Addr} {o : HO} (hs : Soft (H a)) : TpE H (upd H a o) := fun b u q hu => (upd_ne (fun z => by
  subst z
  rw [q] at hs
  rcases hu with ⟨_, rfl⟩ | ⟨_, rfl⟩ <;> exact hs)).trans q
theorem RepC.keep {c : Cell} (r : RepC K H a c) (t : Tp K H H') (e : H' a = H a) (x : TpE H H') : RepC K H' a c := by
  cases c with
  | tab y => exact ⟨r.1, x.tab r.2⟩
  | cod q => exact e.trans r
  | lst ds =>
    obtain ⟨vs, h, q⟩ := r
    exact ⟨vs, e.trans h, q.mono t⟩
  | dic ds =>
    obtain ⟨vs, h, q⟩ := r
    exact ⟨vs, e.trans h, Paired.mapP q fun _ _ z => ⟨z.1, z.2.mono t⟩⟩
  | dit ds =>
    obtain ⟨vs, h, q⟩ := r
    exact ⟨vs, e.trans h, Paired.mapP q fun _ _ z => ⟨z.1, z.2.mono t⟩⟩
  | fdc ds =>
    obtain ⟨vs, o, h, q⟩ := r
    exact ⟨vs, o, e.trans h, Paired.mapP q fun _ _ z => ⟨z.1, z.2.mono t⟩⟩
  | obj C ds =>
    obtain ⟨C', dx, vs, hn, h, q⟩ := r
    exact ⟨C', dx, vs, hn, e.trans h, Paired.mapP q fun _ _ z => ⟨z.1, z.2.mono t⟩⟩
theorem View.put {o : HO} {c : Cell} (v : View K M H) (hs : Soft (H a)) (r : RepC K (upd H a o) a c) : View K (mup M a c) (upd H a o) := fun b d e => by
  by_cases h : b = a
  · subst h; rw [mup_same] at e; cases e; exact r
  · rw [mup_ne h] at e
    exact (v b d e).keep (Tp.put hs) (upd_ne h) (TpE.soft hs)
theorem View.new {o : HO} (v : View K M H) (h : H a = none) : View K M (upd H a o) := fun b d e => by
  refine (v b d e).keep (Tp.put (by rw [h]; trivial)) (upd_ne ?_) (TpE.soft (by rw [h]; trivial))
  intro z; subst z; exact (v b d e).ne h
theorem Tp.new {o : HO} (h : H a = none) : Tp K H (upd H a o) := Tp.put (by rw [h]; trivial)
end
abbrev Env' := List (Option Dv)
structure RepE (K : PySem.W.Frag) (H : Hp) (ρ : Env') (σ : L2.St) : Prop where
  len : ρ.length = σ.length
  at' : ∀ (i : Nat) (d : Dv), ρ[i]? = some (some d) → ∃ v, σ[i]? = some (some v) ∧ Rep K H d v
section
variable {K : PySem.W.Frag} {H H' : Hp} {ρ : Env'} {σ : L2.St}
theorem RepE.mono (r : RepE K H ρ σ) (t : Tp K H H') : RepE K H' ρ σ := ⟨r.len, fun i d e => let ⟨v, h, q⟩ := r.at' i d e; ⟨v, h, q.mono t⟩⟩
theorem RepE.set {d : Dv} {v : V} (r : RepE K H ρ σ) (i : Nat) (q : Rep K H d v) : RepE K H (ρ.set i (some d)) (σ.set i (some v)) := by
  refine ⟨by simp [r.len], fun j e h => ?_⟩
  by_cases hj : i = j
  · subst hj
    have hl : i < ρ.length := by
      have := (List.getElem?_eq_some_iff.mp h).1
      simpa using this
    rw [List.getElem?_set_self hl] at h
    cases h
    exact ⟨v, List.getElem?_set_self (by rw [← r.len]; exact hl), q⟩
  · rw [List.getElem?_set_ne hj] at h
    obtain ⟨w, h1, h2⟩ := r.at' j e h
    exact ⟨w, by rw [List.getElem?_set_ne hj]; exact h1, h2⟩
theorem RepE.drop (r : RepE K H ρ σ) (i : Nat) (x : Option V) : RepE K H (ρ.set i none) (σ.set i x) := by
  refine ⟨by simp [r.len], fun j e h => ?_⟩
  by_cases hj : i = j
  · subst hj
    have hl : i < ρ.length := by
      have := (List.getElem?_eq_some_iff.mp h).1
      simpa using this
    rw [List.getElem?_set_self hl] at h
    cases h
  · rw [List.getElem?_set_ne hj] at h
    obtain ⟨w, h1, h2⟩ := r.at' j e h
    exact ⟨w, by rw [List.getElem?_set_ne hj]; exact h1, h2⟩
def wipeA (ρ : Env') : List Nat → Env'
  | [] => ρ
  | v :: vs => (wipeA ρ vs).set v none
theorem RepE.wipe (r : RepE K H ρ σ) : ∀ (vs : List Nat), RepE K H (wipeA ρ vs) (wipe σ vs)
  | [] => r
  | v :: vs => (RepE.wipe r vs).drop v none
end
def SubE : Env' → Env' → Prop
  | [], [] => True
  | none :: r, _ :: r' => SubE r r'
  | some d :: r, y :: r' => y = some d ∧ SubE r r'
  | _, _ => False
theorem SubE.refl : ∀ (ρ : Env'), SubE ρ ρ
  | [] => True.intro
  | none :: r => SubE.refl r
  | some d :: r => ⟨rfl, SubE.refl r⟩
theorem SubE.rep {K : PySem.W.Frag} {H : Hp} : ∀ {ρ ρ' : Env'} {σ : L2.St}, SubE ρ ρ' → RepE K H ρ' σ → RepE K H ρ σ := fun {ρ ρ' σ} h r => by
  have len : ∀ {ρ ρ' : Env'}, SubE ρ ρ' → ρ.length = ρ'.length := by
    intro ρ
    induction ρ with
    | nil => intro ρ' h; cases ρ' with
      | nil => rfl
      | cons _ _ => exact h.elim
    | cons x r ih => intro ρ' h; cases ρ' with
      | nil => cases x <;> exact h.elim
      | cons y r' =>
        cases x with
        | none => simp [ih (show SubE r r' from h)]
        | some d => simp [ih (show SubE r r' from h.2)]
  have get : ∀ {ρ ρ' : Env'}, SubE ρ ρ' → ∀ (i : Nat) (d : Dv), ρ[i]? = some (some d) → ρ'[i]? = some (some d) := by
    intro ρ
    induction ρ with
    | nil => intro ρ' h i d e; simp at e
    | cons x r ih => intro ρ' h i d e; cases ρ' with
      | nil => cases x <;> exact h.elim
      | cons y r' =>
        cases x with
        | none =>
          cases i with
          | zero => simp at e
          | succ i => simpa using ih (show SubE r r' from h) i d (by simpa using e)
        | some f =>
          cases i with
          | zero => simp at e; subst e; simp [h.1]
          | succ i => simpa using ih (show SubE r r' from h.2) i d (by simpa using e)
  exact ⟨(len h).trans r.len, fun i d e => r.at' i d (get h i d e)⟩
def startA (n : Nat) (ds : List Dv) : Env' := ds.map some ++ List.replicate (n - ds.length) none
theorem repE_start {K : PySem.W.Frag} {H : Hp} {N : List Str} {ds : List Dv} {vs : List V} (h : Reps K H ds vs) : RepE K H (startA N.length ds) (L2.start N vs) := by
  have hl := h.length
  refine ⟨by simp [startA, L2.start, hl], fun i d e => ?_⟩
  unfold startA at e
  unfold L2.start
  by_cases hi : i < ds.length
  · rw [List.getElem?_append_left (by simpa using hi), List.getElem?_map] at e
    cases q : ds[i]? with
    | none => rw [q] at e; cases e
    | some d' =>
      rw [q] at e; cases e
      obtain ⟨v, h1, h2⟩ := h.get q
      refine ⟨v, ?_, h2⟩
      rw [List.getElem?_append_left (by simpa [← hl] using hi), List.getElem?_map, h1]; rfl
  · rw [List.getElem?_append_right (by simpa using hi), List.getElem?_replicate] at e
    split at e <;> cases e
abbrev DK := Dv → Ms → Prop
abbrev RE := Env' → Ms → DK → Prop
abbrev RT := Env' → Ms → (Bool → Ms → Prop) → Prop
abbrev RA := Env' → Ms → (List Dv → Ms → Prop) → Prop
structure Ends' where
  nx : Env' → Ms → Prop
  rt : DK
  bk : Env' → Ms → Prop := fun _ _ => False
  ct : Env' → Ms → Prop := fun _ _ => False
abbrev RS := Ends' → Env' → Ms → Prop
def wk (N : Env' → Ms → Prop) : Env' → Ms → Prop := fun ρ M => ∃ ρ' M', SubE ρ' ρ ∧ Sub M' M ∧ N ρ' M'
def wkM (N : Ms → Prop) : Ms → Prop := fun M => ∃ M', Sub M' M ∧ N M'
def onS {α : Type} (o : Option α) (Q : α → Prop) : Prop := match o with | some a => Q a | none => False
theorem onS_ex {α : Type} {o : Option α} {Q : α → Prop} (h : onS o Q) : ∃ a, o = some a ∧ Q a := by
  cases o with
  | none => exact h.elim
  | some a => exact ⟨a, rfl, h⟩
theorem onS_of {α : Type} {o : Option α} {Q : α → Prop} {a : α} (e : o = some a) (h : Q a) : onS o Q := by subst e; exact h
def onIf (b : Bool) (A B : Prop) : Prop := match b with | true => A | false => B
theorem onIf_dec {c A B : Prop} {inst : Decidable c} (h1 : c → A) (h2 : ¬ c → B) : onIf (@decide c inst) A B := by
  by_cases h : c
  · rw [show @decide c inst = true from decide_eq_true h]; exact h1 h
  · rw [show @decide c inst = false from decide_eq_false h]; exact h2 h
theorem onIf_ndec {c A B : Prop} {inst : Decidable c} (h1 : ¬ c → A) (h2 : c → B) : onIf (!@decide c inst) A B := by
  by_cases h : c
  · rw [show @decide c inst = true from decide_eq_true h]; exact h2 h
  · rw [show @decide c inst = false from decide_eq_false h]; exact h1 h
def onB (d : Dv) (Q : Bool → Prop) : Prop := match d with | .bl b => Q b | _ => False
theorem onB_ex {d : Dv} {Q : Bool → Prop} (h : onB d Q) : ∃ b, d = .bl b ∧ Q b := by
  cases d <;> first | exact h.elim | exact ⟨_, rfl, h⟩
def onI (d : Dv) (Q : Int → Prop) : Prop := match d with | .int b => Q b | _ => False
theorem onI_ex {d : Dv} {Q : Int → Prop} (h : onI d Q) : ∃ b, d = .int b ∧ Q b := by
  cases d <;> first | exact h.elim | exact ⟨_, rfl, h⟩
def onI2 (d f : Dv) (Q : Int → Int → Prop) : Prop := match d, f with | .int a, .int b => Q a b | _, _ => False
theorem onI2_ex {d f : Dv} {Q : Int → Int → Prop} (h : onI2 d f Q) : ∃ a b, d = .int a ∧ f = .int b ∧ Q a b := by
  cases d <;> first | exact h.elim | skip
  cases f <;> first | exact h.elim | exact ⟨_, _, rfl, rfl, h⟩
def LkV (K : PySem.W.Frag) (H : Hp) (Q : DK) (Q' : VK) : Prop := ∀ v H' d M', Tp K H H' → Rep K H' d v → View K M' H' → Q d M' → Q' v H'
def LkB (K : PySem.W.Frag) (H : Hp) (Q : Bool → Ms → Prop) (Q' : Bool → Hp → Prop) : Prop := ∀ b H' M', Tp K H H' → View K M' H' → Q b M' → Q' b H'
def LkA (K : PySem.W.Frag) (H : Hp) (Q : List Dv → Ms → Prop) (Q' : List V → Hp → Prop) : Prop := ∀ vs H' ds M', Tp K H H' → Reps K H' ds vs → View K M' H' → Q ds M' → Q' vs H'
def LkS (K : PySem.W.Frag) (H : Hp) (Q : Env' → Ms → Prop) (Q' : L2.St → Hp → Prop) : Prop := ∀ σ H' ρ M', Tp K H H' → RepE K H' ρ σ → View K M' H' → Q ρ M' → Q' σ H'
structure LkD (K : PySem.W.Frag) (H : Hp) (D : Ends') (D' : Ends) : Prop where
  nx : LkS K H D.nx D'.nx
  rt : LkV K H D.rt D'.rt
  bk : LkS K H D.bk D'.bk
  ct : LkS K H D.ct D'.ct
section
variable {K : PySem.W.Frag} {H H1 : Hp}
theorem LkV.up {Q : DK} {Q' : VK} (l : LkV K H Q Q') (t : Tp K H H1) : LkV K H1 Q Q' := fun v H' d M' t' => l v H' d M' (t.trans t')
theorem LkB.up {Q : Bool → Ms → Prop} {Q' : Bool → Hp → Prop} (l : LkB K H Q Q') (t : Tp K H H1) : LkB K H1 Q Q' := fun v H' M' t' => l v H' M' (t.trans t')
theorem LkA.up {Q : List Dv → Ms → Prop} {Q' : List V → Hp → Prop} (l : LkA K H Q Q') (t : Tp K H H1) : LkA K H1 Q Q' := fun v H' d M' t' => l v H' d M' (t.trans t')
theorem LkS.up {Q : Env' → Ms → Prop} {Q' : L2.St → Hp → Prop} (l : LkS K H Q Q') (t : Tp K H H1) : LkS K H1 Q Q' := fun v H' d M' t' => l v H' d M' (t.trans t')
theorem LkD.up {D : Ends'} {D' : Ends} (l : LkD K H D D') (t : Tp K H H1) : LkD K H1 D D' := ⟨l.nx.up t, l.rt.up t, l.bk.up t, l.ct.up t⟩
end
def cE (K : PySem.W.Frag) (t : RE) : TE := fun σ H Q' => ∃ ρ M Q, RepE K H ρ σ ∧ View K M H ∧ t ρ M Q ∧ LkV K H Q Q'
def cT (K : PySem.W.Frag) (t : RT) : TT := fun σ H Q' => ∃ ρ M Q, RepE K H ρ σ ∧ View K M H ∧ t ρ M Q ∧ LkB K H Q Q'
def cA (K : PySem.W.Frag) (t : RA) : TA := fun σ H Q' => ∃ ρ M Q, RepE K H ρ σ ∧ View K M H ∧ t ρ M Q ∧ LkA K H Q Q'
def cS (K : PySem.W.Frag) (t : RS) : TS := fun D' σ H => ∃ ρ M D, RepE K H ρ σ ∧ View K M H ∧ t D ρ M ∧ LkD K H D D'
def AE (X : Cx) (e : Expr) (t : RE) : Prop := PE X e (cE X.K t)
def AT (X : Cx) (e : Expr) (t : RT) : Prop := PT X e (cT X.K t)
def AW (X : Cx) (e : Expr) (t : RT) : Prop := PW X e (cT X.K t)
def AA (X : Cx) (es : List Expr) (t : RA) : Prop := PA X es (cA X.K t)
def AS (X : Cx) (st : Stmt) (t : RS) : Prop := PS X st (cS X.K t)
def ASs (X : Cx) (sts : List Stmt) (t : RS) : Prop := PSs X sts (cS X.K t)
theorem pe_imp {X : Cx} {e : Expr} {t t' : TE} (h : PE X e t) (f : ∀ σ H Q, t' σ H Q → t σ H Q) : PE X e t' := ⟨fun pins s σ H Q I q => h.run pins s σ H Q I (f _ _ _ q)⟩
theorem pt_imp {X : Cx} {e : Expr} {t t' : TT} (h : PT X e t) (f : ∀ σ H Q, t' σ H Q → t σ H Q) : PT X e t' := ⟨fun pins s σ H Q I q => h.run pins s σ H Q I (f _ _ _ q)⟩
theorem pw_imp {X : Cx} {e : Expr} {t t' : TT} (h : PW X e t) (f : ∀ σ H Q, t' σ H Q → t σ H Q) : PW X e t' := ⟨fun wh pins s σ H Q I q => h.run wh pins s σ H Q I (f _ _ _ q)⟩
theorem pa_imp {X : Cx} {e : List Expr} {t t' : TA} (h : PA X e t) (f : ∀ σ H Q, t' σ H Q → t σ H Q) : PA X e t' := ⟨fun pos pins s σ H Q I q => h.run pos pins s σ H Q I (f _ _ _ q)⟩
theorem ps_imp {X : Cx} {e : Stmt} {t t' : TS} (h : PS X e t) (f : ∀ D σ H, t' D σ H → t D σ H) : PS X e t' := ⟨fun pins s σ H D I q => h.run pins s σ H D I (f _ _ _ q)⟩
theorem pss_imp {X : Cx} {e : List Stmt} {t t' : TS} (h : PSs X e t) (f : ∀ D σ H, t' D σ H → t D σ H) : PSs X e t' := ⟨fun pins s σ H D I q => h.run pins s σ H D I (f _ _ _ q)⟩
section
variable {X : Cx} {a b c e : Expr} {ta tb tc te : RE} {pos : Pos}
def aC (d : Dv) : RE := fun _ M Q => Q d M
def aVar (i : Nat) : RE := fun ρ M Q => onS ρ[i]? fun o => onS o fun d => Q d M
theorem ae_c {d : Dv} {v : V} (h : PE X e (tC v)) (r : ∀ H, Rep X.K H d v) : AE X e (aC d) := pe_imp h fun σ H Q ⟨ρ, M, Q1, _, hv, q, k⟩ => k v H d M (Tp.refl H) (r H) hv q
theorem ae_int {i j pos} : AE X (.Constant (.int i) j pos) (aC (.int i)) := ae_c pe_int fun _ => by simp only [Rep]
theorem ae_bl {b j pos} : AE X (.Constant (.bool b) j pos) (aC (.bl b)) := ae_c pe_bl fun _ => by simp only [Rep]
theorem ae_non {j pos} : AE X (.Constant .none j pos) (aC .non) := ae_c pe_non fun _ => by simp only [Rep]
theorem ae_str {x j pos} : AE X (.Constant (.str x) j pos) (aC (.str x)) := ae_c pe_str fun _ => by simp only [Rep]
theorem av (i : Nat) {x : Str} (hN : X.N[i]? = some x := by rfl) (hv : Vis X.env.scope x := by first | exact Or.inl rfl | exact Or.inr (Or.inl rfl) | exact Or.inr (Or.inr rfl)) (hd : (x == ("__debug__" : Str)) = false := by decide)
    (hcd : (x == ("__classdict__" : Str)) = false := by decide) : AE X (.Name x pos) (aVar i) :=
  pe_imp (pe_var hN hv hd hcd) fun σ H Q ⟨ρ, M, Q1, hr, hv, q, k⟩ => by
    obtain ⟨o, e, q⟩ := onS_ex q
    obtain ⟨d, e', q⟩ := onS_ex q
    subst e'
    obtain ⟨v, h1, h2⟩ := hr.at' i d e
    exact ⟨v, h1, k v H d M (Tp.refl H) h2 hv q⟩
theorem ae_gint {x : Str} {i : Int} {t : Tok} (hg : Gl X x) (hm : X.mg x = some (.int i t)) (hd : (x == ("__debug__" : Str)) = false := by decide) : AE X (.Name x pos) (aC (.int i)) :=
  ae_c (pe_glob hg hm (v := .int i) ⟨_, rfl⟩ hd) fun _ => by simp only [Rep]
theorem ae_gty {x : Str} {n : String} (hg : Gl X x) (hm : X.mg x = none) (hv : bootBuiltins x = some (.type n)) (hn : x ≠ "__name__" := by decide) (hd : (x == ("__debug__" : Str)) = false := by decide) : AE X (.Name x pos) (aC (.ty n)) :=
  ae_c (pe_bltn hg hm hv (v := .ty n) rfl hn hd) fun _ => by simp only [Rep]
theorem seqE {K : PySem.W.Frag} {ρ : Env'} {σ : L2.St} {M : Ms} {H : Hp} {t : RE} {Q : DK} {Q' : VK} (hr : RepE K H ρ σ) (hv : View K M H) (h : t ρ M Q) (k : LkV K H Q Q') : cE K t σ H Q' := ⟨ρ, M, Q, hr, hv, h, k⟩
abbrev AR2 := Dv → Dv → Ms → DK → Prop
abbrev AR1 := Dv → Ms → DK → Prop
def Ab2 (K : PySem.W.Frag) (r : R2) (ar : AR2) : Prop := ∀ H M x y dx dy Q Q', Rep K H dx x → Rep K H dy y → View K M H → ar dx dy M Q → LkV K H Q Q' → r x y H Q'
def Ab1 (K : PySem.W.Frag) (r : V → Hp → VK → Prop) (ar : AR1) : Prop := ∀ H M x dx Q Q', Rep K H dx x → View K M H → ar dx M Q → LkV K H Q Q' → r x H Q'
def aOp (ar : AR2) (ta tb : RE) : RE := fun ρ M Q => ta ρ M fun x M1 => tb ρ M1 fun y M2 => ar x y M2 Q
def aUn (ar : AR1) (ta : RE) : RE := fun ρ M Q => ta ρ M fun x M1 => ar x M1 Q
theorem aop_imp {K : PySem.W.Frag} {r : R2} {ar : AR2} (h : Ab2 K r ar) : ∀ σ H Q, cE K (aOp ar ta tb) σ H Q → tOp r (cE K ta) (cE K tb) σ H Q := fun σ H Q' ⟨ρ, M, Q, hr, hv, q, k⟩ =>
  seqE hr hv q fun v H1 d M1 t1 r1 v1 q1 => seqE (hr.mono t1) v1 q1 fun v2 H2 d2 M2 t2 r2 v2' q2 => h H2 M2 v v2 d d2 Q Q' (r1.mono t2) r2 v2' q2 (k.up (t1.trans t2))
theorem ae_op {op : Operator} {r : R2} {ar : AR2} (ho : OpR X (binaryOp op) r) (h : Ab2 X.K r ar) (ha : AE X a ta) (hb : AE X b tb) : AE X (.BinOp a op b pos) (aOp ar ta tb) := pe_imp (pe_op ho ha hb) (aop_imp h)
theorem ae_un {op : UnaryOp} {r : V → Hp → VK → Prop} {ar : AR1} (ho : UnR X (unaryOp op) r) (h : Ab1 X.K r ar) (ha : AE X a ta) : AE X (.UnaryOp op a pos) (aUn ar ta) :=
  pe_imp (pe_un ho ha) fun σ H Q' ⟨ρ, M, Q, hr, hv, q, k⟩ => seqE hr hv q fun v H1 d M1 t1 r1 v1 q1 => h H1 M1 v d Q Q' r1 v1 q1 (k.up t1)
theorem ae_cmp {op : CmpOp} {r : R2} {ar : AR2} (ho : OpR X (compareOp op) r) (h : Ab2 X.K r ar) (ha : AE X a ta) (hb : AE X b tb) (hm : behindInMarks op b = false) : AE X (.Compare a [op] [b] pos) (aOp ar ta tb) := pe_imp (pe_cmpR ho ha hb hm) (aop_imp h)
def aB (t : RE) : RT := fun ρ M Q => t ρ M fun d M1 => onB d fun b => Q b M1
theorem at_cmp {op : CmpOp} {r : R2} {ar : AR2} (ho : OpR X (compareOp op) r) (h : Ab2 X.K r ar) (ha : AE X a ta) (hb : AE X b tb) (hm : behindInMarks op b = false) : AT X (.Compare a [op] [b] pos) (aB (aOp ar ta tb)) :=
  pt_imp (pt_cmpR ho ha hb hm) fun σ H Q' h' => by
    obtain ⟨ρ, M, Q, hr, hv, q, k⟩ := h'
    exact aop_imp h σ H _ ⟨ρ, M, _, hr, hv, q, fun v H1 d M1 t1 r1 v1 q1 => by
      obtain ⟨b, e, q1⟩ := onB_ex q1
      exact ⟨b, by subst e; simpa only [Rep] using r1, k b H1 M1 t1 v1 q1⟩⟩
def truA : Dv → Ms → Option Bool
  | .non, _ => some false
  | .bl b, _ => some b
  | .int i, _ => some (i != 0)
  | .tup xs, _ => some (!xs.isEmpty)
  | .rol xs, _ => some (!xs.isEmpty)
  | .ref a, M => match M a with | some (.lst xs) => some (!xs.isEmpty) | some (.dic xs) => some (!xs.isEmpty) | _ => none
  | _, _ => none
def aTru (t : RE) : RT := fun ρ M Q => t ρ M fun d M1 => onS (truA d M1) fun b => Q b M1
theorem Reps.isEmpty {K : PySem.W.Frag} {H : Hp} {ds : List Dv} {vs : List V} (h : Reps K H ds vs) : vs.isEmpty = ds.isEmpty := by
  have := h.length
  cases ds <;> cases vs <;> simp at this ⊢
theorem paired_isEmpty {α β : Type} {R : α → β → Prop} {l : List α} {m : List β} (h : Paired R l m) : m.isEmpty = l.isEmpty := by
  cases h <;> rfl
theorem truA_ok {K : PySem.W.Frag} {M : Ms} {H : Hp} {d : Dv} {v : V} {b : Bool} (r : Rep K H d v) (hv : View K M H) (h : truA d M = some b) : TruV K v H b := by
  cases d with
  | non => simp only [Rep] at r; subst r; simp only [truA, Option.some.injEq] at h; exact h.symm
  | bl k => simp only [Rep] at r; subst r; simp only [truA, Option.some.injEq] at h; exact h.symm
  | int i => simp only [Rep] at r; subst r; simp only [truA, Option.some.injEq] at h; exact h.symm
  | str i => simp [truA] at h
  | ty i => simp [truA] at h
  | tuc i => simp [truA] at h
  | exc i j => simp [truA] at h
  | tup ds =>
    simp only [Rep] at r
    obtain ⟨a, vs, rfl, q, z⟩ := r
    simp only [truA, Option.some.injEq] at h
    exact .inr (.inl ⟨vs, q, by rw [z.isEmpty]; exact h.symm⟩)
  | rol ds =>
    simp only [Rep] at r
    obtain ⟨a, vs, rfl, q, z⟩ := r
    simp only [truA, Option.some.injEq] at h
    exact .inl ⟨vs, q.l, by rw [z.isEmpty]; exact h.symm⟩
  | ref a =>
    simp only [Rep] at r; subst r
    simp only [truA] at h
    cases e : M a with
    | none => rw [e] at h; cases h
    | some c =>
      rw [e] at h
      cases c with
      | lst xs =>
        obtain ⟨vs, h1, h2⟩ := hv a _ e
        simp only [Option.some.injEq] at h
        exact .inl ⟨vs, .inl (.inl h1), by rw [h2.isEmpty]; exact h.symm⟩
      | dic xs =>
        obtain ⟨vs, h1, h2⟩ := hv a _ e
        simp only [Option.some.injEq] at h
        exact .inr (.inr ⟨vs, h1, by rw [paired_isEmpty h2]; exact h.symm⟩)
      | dit xs => cases h
      | fdc xs => cases h
      | obj C xs => cases h
      | tab xs => cases h
      | cod q => cases h
theorem at_tru (h : AE X e te) (he : ∀ whole, isTrue e X.env whole = (do let v ← whole; standAt e.pos; holding [v] (truthy v)) := by intro _; rfl) : AT X e (aTru te) :=
  pt_imp (pt_truth h he) fun σ H Q' ⟨ρ, M, Q, hr, hv, q, k⟩ => seqE hr hv q fun v H1 d M1 t1 r1 v1 q1 => by
    obtain ⟨b, e, q1⟩ := onS_ex q1
    exact ⟨b, truA_ok r1 v1 e, k b H1 M1 t1 v1 q1⟩
def aAnd (t u : RT) : RT := fun ρ M Q => t ρ M fun b M1 => onIf b (u ρ M1 Q) (Q false M1)
def aOr (t u : RT) : RT := fun ρ M Q => t ρ M fun b M1 => onIf b (Q true M1) (u ρ M1 Q)
def aNot (t : RT) : RT := fun ρ M Q => t ρ M fun b M1 => Q (!b) M1
theorem seqT {K : PySem.W.Frag} {ρ : Env'} {σ : L2.St} {M : Ms} {H : Hp} {t : RT} {Q : Bool → Ms → Prop} {Q' : Bool → Hp → Prop} (hr : RepE K H ρ σ) (hv : View K M H) (h : t ρ M Q) (k : LkB K H Q Q') : cT K t σ H Q' := ⟨ρ, M, Q, hr, hv, h, k⟩
variable {tA tBb : RT} {rest : List Expr}
theorem AW.pt (h : AW X e tA) : AT X e tA := PW.pt h
theorem aw_and1 (ha : AT X a tA) : AW X (.BoolOp .And [a] pos) tA := pw_and1 ha
theorem aw_or1 (ha : AT X a tA) : AW X (.BoolOp .Or [a] pos) tA := pw_or1 ha
theorem aw_and (ha : AT X a tA) (hb : AW X (.BoolOp .And (b :: rest) pos) tBb) : AW X (.BoolOp .And (a :: b :: rest) pos) (aAnd tA tBb) :=
  pw_imp (pw_and ha hb) fun σ H Q' ⟨ρ, M, Q, hr, hv, q, k⟩ => seqT hr hv q fun b H1 M1 t1 v1 q1 => by
    cases b with
    | true => exact seqT (hr.mono t1) v1 q1 (k.up t1)
    | false => exact k _ _ _ t1 v1 q1
theorem aw_or (ha : AT X a tA) (hb : AW X (.BoolOp .Or (b :: rest) pos) tBb) : AW X (.BoolOp .Or (a :: b :: rest) pos) (aOr tA tBb) :=
  pw_imp (pw_or ha hb) fun σ H Q' ⟨ρ, M, Q, hr, hv, q, k⟩ => seqT hr hv q fun b H1 M1 t1 v1 q1 => by
    cases b with
    | false => exact seqT (hr.mono t1) v1 q1 (k.up t1)
    | true => exact k _ _ _ t1 v1 q1
theorem at_not (ha : AT X a tA) : AT X (.UnaryOp .Not a pos) (aNot tA) :=
  pt_imp (pt_not ha) fun σ H Q' ⟨ρ, M, Q, hr, hv, q, k⟩ => seqT hr hv q fun b H1 M1 t1 v1 q1 => k _ _ _ t1 v1 q1
def aAndV (t u : RE) : RE := fun ρ M Q => t ρ M fun x M1 => onB x fun b => onIf b (u ρ M1 Q) (Q (.bl false) M1)
def aOrV (t u : RE) : RE := fun ρ M Q => t ρ M fun x M1 => onB x fun b => onIf b (Q (.bl true) M1) (u ρ M1 Q)
def aNotV (t : RE) : RE := fun ρ M Q => t ρ M fun x M1 => onB x fun b => Q (.bl (!b)) M1
theorem rep_bl {K : PySem.W.Frag} {H : Hp} {b : Bool} : Rep K H (.bl b) (.bl b) := by simp only [Rep]
theorem rep_int {K : PySem.W.Frag} {H : Hp} {i : Int} : Rep K H (.int i) (.int i) := by simp only [Rep]
theorem rep_str {K : PySem.W.Frag} {H : Hp} {i : Str} : Rep K H (.str i) (.str i) := by simp only [Rep]
theorem rep_non {K : PySem.W.Frag} {H : Hp} : Rep K H .non .non := by simp only [Rep]
theorem rep_ref {K : PySem.W.Frag} {H : Hp} {a : Addr} : Rep K H (.ref a) (.ref a) := by simp only [Rep]
theorem rep_tup {K : PySem.W.Frag} {H : Hp} {a : Addr} {vs : List V} {ds : List Dv} (h : SqT K H a vs) (r : Reps K H ds vs) : Rep K H (.tup ds) (.ref a) := by
  simp only [Rep]; exact ⟨a, vs, rfl, h, r⟩
theorem ae_and1 (ha : AE X a ta) : AE X (.BoolOp .And [a] pos) ta := pe_one ha
theorem ae_or1 (ha : AE X a ta) : AE X (.BoolOp .Or [a] pos) ta := pe_one ha
theorem ae_and (ha : AE X a ta) (hb : AE X (.BoolOp .And (b :: rest) pos) tb) : AE X (.BoolOp .And (a :: b :: rest) pos) (aAndV ta tb) :=
  pe_imp (pe_and ha hb) fun σ H Q' ⟨ρ, M, Q, hr, hv, q, k⟩ => seqE hr hv q fun v H1 d M1 t1 r1 v1 q1 => by
    obtain ⟨b, e, q1⟩ := onB_ex q1
    subst e
    refine ⟨b, by simpa only [Rep] using r1, ?_⟩
    cases b with
    | true => exact seqE (hr.mono t1) v1 q1 (k.up t1)
    | false => exact k _ _ _ _ t1 rep_bl v1 q1
theorem ae_or (ha : AE X a ta) (hb : AE X (.BoolOp .Or (b :: rest) pos) tb) : AE X (.BoolOp .Or (a :: b :: rest) pos) (aOrV ta tb) :=
  pe_imp (pe_or ha hb) fun σ H Q' ⟨ρ, M, Q, hr, hv, q, k⟩ => seqE hr hv q fun v H1 d M1 t1 r1 v1 q1 => by
    obtain ⟨b, e, q1⟩ := onB_ex q1
    subst e
    refine ⟨b, by simpa only [Rep] using r1, ?_⟩
    cases b with
    | false => exact seqE (hr.mono t1) v1 q1 (k.up t1)
    | true => exact k _ _ _ _ t1 rep_bl v1 q1
theorem ae_not (ha : AE X a ta) : AE X (.UnaryOp .Not a pos) (aNotV ta) :=
  pe_imp (pe_not ha) fun σ H Q' ⟨ρ, M, Q, hr, hv, q, k⟩ => seqE hr hv q fun v H1 d M1 t1 r1 v1 q1 => by
    obtain ⟨b, e, q1⟩ := onB_ex q1
    subst e
    exact ⟨b, by simpa only [Rep] using r1, k _ _ _ _ t1 rep_bl v1 q1⟩
end
section
variable {X : Cx}
def arI (C : Int → Int → Prop) (g : Int → Int → Dv) : AR2 := fun x y M Q => onI2 x y fun i j => C i j ∧ Q (g i j) M
def arI0 (g : Int → Int → Dv) : AR2 := fun x y M Q => onI2 x y fun i j => Q (g i j) M
theorem ab_I {K : PySem.W.Frag} {C : Int → Int → Prop} {g : Int → Int → Int} : Ab2 K (rI C fun i j => .int (g i j)) (arI C fun i j => .int (g i j)) := fun H M x y dx dy Q Q' rx ry hv q0 k => by
  obtain ⟨i, j, e1, e2, hc, q⟩ := onI2_ex q0
  subst e1 e2
  exact ⟨i, j, by simpa only [Rep] using rx, by simpa only [Rep] using ry, hc, k _ _ _ _ (Tp.refl H) rep_int hv q⟩
theorem ab_I0 {K : PySem.W.Frag} {g : Int → Int → Int} : Ab2 K (rI0 fun i j => .int (g i j)) (arI0 fun i j => .int (g i j)) := fun H M x y dx dy Q Q' rx ry hv q0 k => by
  obtain ⟨i, j, e1, e2, q⟩ := onI2_ex q0
  subst e1 e2
  exact ⟨i, j, by simpa only [Rep] using rx, by simpa only [Rep] using ry, k _ _ _ _ (Tp.refl H) rep_int hv q⟩
theorem ab_B0 {K : PySem.W.Frag} {g : Int → Int → Bool} : Ab2 K (rI0 fun i j => .bl (g i j)) (arI0 fun i j => .bl (g i j)) := fun H M x y dx dy Q Q' rx ry hv q0 k => by
  obtain ⟨i, j, e1, e2, q⟩ := onI2_ex q0
  subst e1 e2
  exact ⟨i, j, by simpa only [Rep] using rx, by simpa only [Rep] using ry, k _ _ _ _ (Tp.refl H) rep_bl hv q⟩
theorem ab1_I {K : PySem.W.Frag} {g : Int → Int} : Ab1 K (rU fun i => .int (g i)) (fun x M Q => onI x fun i => Q (.int (g i)) M) := fun H M x dx Q Q' rx hv q0 k => by
  obtain ⟨i, e1, q⟩ := onI_ex q0
  subst e1
  exact ⟨i, by simpa only [Rep] using rx, k _ _ _ _ (Tp.refl H) rep_int hv q⟩
variable {a b : Expr} {ta tb : RE} {pos : Pos}
theorem div_wide {i j : Int} (h : 0 < j ∧ j < 1000000000000000000000000) : CDivW i j := by
  refine wide_div (b := 90) h.1 ?_ (by decide) (by decide)
  have e : (2 : Nat) ^ 90 = 1237940039285380274899124224 := by decide
  rw [e]
  omega
theorem ab_div {K : PySem.W.Frag} : Ab2 K (rI CDivW fun i j => .int (i / j)) (arI (fun _ j => 0 < j ∧ j < 1000000000000000000000000) fun i j => .int (i / j)) := fun H M x y dx dy Q Q' rx ry hv q0 k => by
  obtain ⟨i, j, e1, e2, hc, q⟩ := onI2_ex q0
  subst e1 e2
  exact ⟨i, j, by simpa only [Rep] using rx, by simpa only [Rep] using ry, div_wide hc, k _ _ _ _ (Tp.refl H) rep_int hv q⟩
def aSub := arI0 fun i j => .int (i - j)
def aMod := arI (fun _ j => 0 < j) fun i j => .int (i % j)
def aDiv := arI (fun _ j => 0 < j ∧ j < 1000000000000000000000000) fun i j => .int (i / j)
def aPow := arI CPow fun i j => .int (i ^ j.toNat)
def aLt := arI0 fun i j => .bl (decide (i < j))
def aLe := arI0 fun i j => .bl (decide (i ≤ j))
def aGt := arI0 fun i j => .bl (decide (j < i))
def aGe := arI0 fun i j => .bl (decide (j ≤ i))
def aNeg : AR1 := fun x M Q => onI x fun i => Q (.int (-i)) M
theorem ae_sub (ha : AE X a ta) (hb : AE X b tb) : AE X (.BinOp a .Sub b pos) (aOp aSub ta tb) := ae_op op_sub ab_I0 ha hb
theorem ae_mod (ha : AE X a ta) (hb : AE X b tb) : AE X (.BinOp a .Mod b pos) (aOp aMod ta tb) := ae_op op_mod ab_I ha hb
theorem ae_div (ha : AE X a ta) (hb : AE X b tb) : AE X (.BinOp a .FloorDiv b pos) (aOp aDiv ta tb) := ae_op op_fdivW ab_div ha hb
theorem ae_pow (ha : AE X a ta) (hb : AE X b tb) : AE X (.BinOp a .Pow b pos) (aOp aPow ta tb) := ae_op op_pow ab_I ha hb
theorem ae_neg (ha : AE X a ta) : AE X (.UnaryOp .USub a pos) (aUn aNeg ta) := ae_un un_neg ab1_I ha
theorem ae_lt (ha : AE X a ta) (hb : AE X b tb) : AE X (.Compare a [.Lt] [b] pos) (aOp aLt ta tb) := ae_cmp op_lt ab_B0 ha hb (nomark _)
theorem ae_le (ha : AE X a ta) (hb : AE X b tb) : AE X (.Compare a [.LtE] [b] pos) (aOp aLe ta tb) := ae_cmp op_le ab_B0 ha hb (nomark _)
theorem ae_gt (ha : AE X a ta) (hb : AE X b tb) : AE X (.Compare a [.Gt] [b] pos) (aOp aGt ta tb) := ae_cmp op_gt ab_B0 ha hb (nomark _)
theorem at_lt (ha : AE X a ta) (hb : AE X b tb) : AT X (.Compare a [.Lt] [b] pos) (aB (aOp aLt ta tb)) := at_cmp op_lt ab_B0 ha hb (nomark _)
theorem at_gt (ha : AE X a ta) (hb : AE X b tb) : AT X (.Compare a [.Gt] [b] pos) (aB (aOp aGt ta tb)) := at_cmp op_gt ab_B0 ha hb (nomark _)
theorem at_ge (ha : AE X a ta) (hb : AE X b tb) : AT X (.Compare a [.GtE] [b] pos) (aB (aOp aGe ta tb)) := at_cmp op_ge ab_B0 ha hb (nomark _)
end
end HC
set_option maxHeartbeats 4000000
namespace HC
open PySem L2 PyProof.Rows
section
variable {X : Cx} {e : Expr} {es : List Expr} {te : RE} {t : RA} {pos : Pos}
def aNil : RA := fun _ M Q => Q [] M
def aCons (te : RE) (t : RA) : RA := fun ρ M Q => te ρ M fun d M1 => t ρ M1 fun ds M2 => Q (d :: ds) M2
theorem seqA {K : PySem.W.Frag} {ρ : Env'} {σ : L2.St} {M : Ms} {H : Hp} {t : RA} {Q : List Dv → Ms → Prop} {Q' : List V → Hp → Prop} (hr : RepE K H ρ σ) (hv : View K M H) (h : t ρ M Q) (k : LkA K H Q Q') : cA K t σ H Q' := ⟨ρ, M, Q, hr, hv, h, k⟩
theorem aa_nil : AA X [] aNil := pa_imp pa_nil fun σ H Q' ⟨ρ, M, Q, hr, hv, q, k⟩ => k [] H [] M (Tp.refl H) Reps.nil hv q
theorem aa_cons (ha : AE X e te) (hr : AA X es t) (hs : starEach (e :: es) X.env = (false, eval e X.env) :: starEach es X.env := by rfl) : AA X (e :: es) (aCons te t) :=
  pa_imp (pa_cons ha hr hs) fun σ H Q' ⟨ρ, M, Q, hr, hv, q, k⟩ => seqE hr hv q fun v H1 d M1 t1 r1 v1 q1 => seqA (hr.mono t1) v1 q1 fun vs H2 ds M2 t2 r2 v2 q2 => k (v :: vs) H2 (d :: ds) M2 (t1.trans t2) (Reps.cons (r1.mono t2) r2) v2 q2
def aTup (t : RA) : RE := fun ρ M Q => t ρ M fun ds M1 => ds.length ≤ sizeLine ∧ Q (.tup ds) M1
def aLst (t : RA) : RE := fun ρ M Q => t ρ M fun ds M1 => ds.length ≤ sizeLine ∧ ∀ p, M1 p = none → Q (.ref p) (mup M1 p (.lst ds))
theorem end_tup {K : PySem.W.Frag} {H : Hp} {M : Ms} {vs : List V} {ds : List Dv} {Q : DK} {Q' : VK} (r : Reps K H ds vs) (hv : View K M H) (q : Q (.tup ds) M) (k : LkV K H Q Q') : ∀ p, H p = none → Q' (.ref p) (upd H p (.tup vs)) := fun p hp =>
  k _ _ (.tup ds) M (Tp.new hp) (rep_tup (.inl (.inl upd_same)) (r.mono (Tp.new hp))) (hv.new hp) q
theorem end_lst {K : PySem.W.Frag} {H : Hp} {M : Ms} {vs : List V} {ds : List Dv} {Q : DK} {Q' : VK} (r : Reps K H ds vs) (hv : View K M H) (q : ∀ p, M p = none → Q (.ref p) (mup M p (.lst ds))) (k : LkV K H Q Q') : ∀ p, H p = none → Q' (.ref p) (upd H p (.lst vs)) := fun p hp =>
  k _ _ (.ref p) _ (Tp.new hp) rep_ref (hv.put (c := .lst ds) (by rw [hp]; trivial) ⟨vs, upd_same, r.mono (Tp.new hp)⟩) (q p (hv.free hp))
theorem ae_tup {x1} (h : AA X es t) : AE X (.Tuple es x1 pos) (aTup t) := pe_imp (pe_tup h) fun σ H Q' ⟨ρ, M, Q, hr, hv, q, k⟩ => seqA hr hv q fun vs H1 ds M1 t1 r1 v1 ⟨z, q1⟩ =>
  ⟨by rw [← r1.length]; exact z, end_tup r1 v1 q1 (k.up t1)⟩
theorem ae_lst (h : AA X es t) : AE X (.List es pos) (aLst t) := pe_imp (pe_lst h) fun σ H Q' ⟨ρ, M, Q, hr, hv, q, k⟩ => seqA hr hv q fun vs H1 ds M1 t1 r1 v1 ⟨z, q1⟩ =>
  ⟨by rw [← r1.length]; exact z, end_lst r1 v1 q1 (k.up t1)⟩
end
section
variable {X : Cx}
theorem opr_or {f : Value → Value → Sem Value} {r r' : R2} (h : OpR X f r) (h' : OpR X f r') : OpR X f (fun x y H Q => r x y H Q ∨ r' x y H Q) := by
  intro pins s σ H x y v u Q I rx ry q
  rcases q with q | q
  · exact h pins s σ H x y v u Q I rx ry q
  · exact h' pins s σ H x y v u Q I rx ry q
theorem rep_int_inv {K : PySem.W.Frag} {H : Hp} {i : Int} {v : V} (h : Rep K H (.int i) v) : v = .int i := by simpa only [Rep] using h
theorem rep_bl_inv {K : PySem.W.Frag} {H : Hp} {i : Bool} {v : V} (h : Rep K H (.bl i) v) : v = .bl i := by simpa only [Rep] using h
theorem rep_str_inv {K : PySem.W.Frag} {H : Hp} {i : Str} {v : V} (h : Rep K H (.str i) v) : v = .str i := by simpa only [Rep] using h
theorem rep_non_inv {K : PySem.W.Frag} {H : Hp} {v : V} (h : Rep K H .non v) : v = .non := by simpa only [Rep] using h
theorem rep_ref_inv {K : PySem.W.Frag} {H : Hp} {a : Addr} {v : V} (h : Rep K H (.ref a) v) : v = .ref a := by simpa only [Rep] using h
theorem rep_ty_inv {K : PySem.W.Frag} {H : Hp} {a : String} {v : V} (h : Rep K H (.ty a) v) : v = .ty a := by simpa only [Rep] using h
theorem rep_tup_inv {K : PySem.W.Frag} {H : Hp} {ds : List Dv} {v : V} (h : Rep K H (.tup ds) v) : ∃ a vs, v = .ref a ∧ SqT K H a vs ∧ Reps K H ds vs := by simpa only [Rep] using h
theorem rep_rol_inv {K : PySem.W.Frag} {H : Hp} {ds : List Dv} {v : V} (h : Rep K H (.rol ds) v) : ∃ a vs, v = .ref a ∧ SqF K H a vs ∧ Reps K H ds vs := by simpa only [Rep] using h
theorem view_lst {K : PySem.W.Frag} {M : Ms} {H : Hp} {a : Addr} {ds : List Dv} (hv : View K M H) (h : M a = some (.lst ds)) : ∃ vs, H a = some (.lst vs) ∧ Reps K H ds vs := hv a _ h
theorem rep_tuc_inv {K : PySem.W.Frag} {H : Hp} {ds : List Dv} {v : V} (h : Rep K H (.tuc ds) v) : ∃ a vs, v = .ref a ∧ SqC H a vs ∧ Reps K H ds vs := by simpa only [Rep] using h
theorem rep_exc_inv {K : PySem.W.Frag} {H : Hp} {c : Str} {f : Option Int} {v : V} (h : Rep K H (.exc c f) v) : ∃ a, v = .ref a ∧ SqX K H a c f := by simpa only [Rep] using h
theorem rep_exc {K : PySem.W.Frag} {H : Hp} {c : Str} {f : Option Int} {a : Addr} (h : SqX K H a c f) : Rep K H (.exc c f) (.ref a) := by simp only [Rep]; exact ⟨a, rfl, h⟩
def aAdd : AR2 := fun x y M Q => match x, y with
  | .int i, .int j => Q (.int (i + j)) M
  | .int i, .bl k => Q (.int (i + b2i k)) M
  | .str a, .str b => a.length + b.length ≤ sizeLine ∧ Q (.str (a ++ b)) M
  | .tup a, .tup b => a.length + b.length ≤ sizeLine ∧ Q (.tup (a ++ b)) M
  | .ref a, .ref b => ∃ xs ys, M a = some (.lst xs) ∧ M b = some (.lst ys) ∧ xs.length + ys.length ≤ sizeLine ∧ ∀ p, M p = none → Q (.ref p) (mup M p (.lst (xs ++ ys)))
  | _, _ => False
def rAddH (K : PySem.W.Frag) : R2 := fun x y H Q => (rI0 (fun i j => .int (i + j)) x y H Q ∨ (∃ i k, x = .int i ∧ y = .bl k ∧ Q (.int (i + b2i k)) H)) ∨ ((∃ i j, x = .str i ∧ y = .str j ∧ i.length + j.length ≤ sizeLine ∧ Q (.str (i ++ j)) H) ∨ (rCatA K x y H Q ∨ rCat x y H Q))
theorem op_addH : OpR X (binaryOp .Add) (rAddH X.K) := opr_or (opr_or op_add op_add_ib) (opr_or op_add_str (opr_or op_catA op_cat))
theorem ab_add {K : PySem.W.Frag} : Ab2 K (rAddH K) aAdd := by
  intro H M x y dx dy Q Q' rx ry hv q k
  cases dx <;> cases dy <;> first | exact q.elim | skip
  case int.int i j => exact .inl (.inl ⟨i, j, rep_int_inv rx, rep_int_inv ry, k _ _ _ _ (Tp.refl H) rep_int hv q⟩)
  case int.bl i j => exact .inl (.inr ⟨i, j, rep_int_inv rx, rep_bl_inv ry, k _ _ _ _ (Tp.refl H) rep_int hv q⟩)
  case str.str i j => exact .inr (.inl ⟨i, j, rep_str_inv rx, rep_str_inv ry, q.1, k _ _ _ _ (Tp.refl H) rep_str hv q.2⟩)
  case tup.tup ds es =>
    obtain ⟨a, vs, e1, s1, r1⟩ := rep_tup_inv rx
    obtain ⟨b, ws, e2, s2, r2⟩ := rep_tup_inv ry
    have l1 := r1.length
    have l2 := r2.length
    obtain ⟨z, q⟩ := q
    refine .inr (.inr (.inl ⟨a, b, vs, ws, e1, e2, s1, s2, by omega, fun h => ?_, fun _ h => ?_, fun _ _ => end_tup (r1.append r2) hv q k⟩))
    · subst h
      have : ds = [] := List.length_eq_zero_iff.mp l1
      subst this
      exact k _ _ _ _ (Tp.refl H) (rep_tup s2 r2) hv q
    · subst h
      have : es = [] := List.length_eq_zero_iff.mp l2
      subst this
      rw [List.append_nil] at q
      exact k _ _ _ _ (Tp.refl H) (rep_tup s1 r1) hv q
  case ref.ref a b =>
    obtain ⟨xs, ys, h1, h2, z, q⟩ := q
    obtain ⟨vs, e1, r1⟩ := view_lst hv h1
    obtain ⟨ws, e2, r2⟩ := view_lst hv h2
    have l1 := r1.length
    have l2 := r2.length
    exact .inr (.inr (.inr ⟨a, b, vs, ws, rep_ref_inv rx, rep_ref_inv ry, e1, e2, by omega, end_lst (r1.append r2) hv q k⟩))
variable {a b : Expr} {ta tb : RE} {pos : Pos}
theorem ae_add (ha : AE X a ta) (hb : AE X b tb) : AE X (.BinOp a .Add b pos) (aOp aAdd ta tb) := ae_op op_addH ab_add ha hb
theorem Reps.flat {K : PySem.W.Frag} {H : Hp} {ds : List Dv} {vs : List V} (h : Reps K H ds vs) : ∀ (n : Nat), Reps K H (List.replicate n ds).flatten (List.replicate n vs).flatten
  | 0 => Reps.nil
  | n + 1 => by
    rw [List.replicate_succ, List.replicate_succ, List.flatten_cons, List.flatten_cons]
    exact h.append (Reps.flat h n)
def aMul : AR2 := fun x y M Q => match x, y with
  | .int i, .int j => (CMul i j ∨ CMulW i j) ∧ Q (.int (i * j)) M
  | .ref a, .int k => ∃ xs, M a = some (.lst xs) ∧ k < 2 ^ 63 ∧ -(2 ^ 63) ≤ k ∧ xs.length * k.toNat ≤ sizeLine ∧ ∀ p, M p = none → Q (.ref p) (mup M p (.lst (List.replicate k.toNat xs).flatten))
  | .tup xs, .int k => xs ≠ [] ∧ -1000 ≤ k ∧ k ≤ 1000 ∧ xs.length ≤ 1000 ∧ Q (.tup (List.replicate k.toNat xs).flatten) M
  | _, _ => False
def rRepT1 (K : PySem.W.Frag) : R2 := fun x y H Q => ∃ l xs, x = .ref l ∧ y = .int 1 ∧ SqT K H l xs ∧ Q (.ref l) H
open PyProof.Rows in
theorem tuple_mulW1 (l : Addr) (items : Array Value) (n : Nat) (dd : Option Addr) (sl : Array (Option Value)) (u : Tok) :
    Meets (Builtin.«tuple.__mul__» ⟨[.ref l, .int 1 u], []⟩) (fun _ R s => s.heap.get? l = some { cls := .type "tuple", dict := dd, data := .seq items n, slots := sl } ∧
      R (.ok (.ret (Value.ref l))) s) :=
  .of_wp fun prog w A R s h => by
    obtain ⟨hp, g, d, tk, os⟩ := s
    obtain ⟨hl, h⟩ := h
    have f1 := AutoSeq1.idx_int
    have c1 : (items.isEmpty || (1 : Int) == 1) = true := by simp
    wp_walk using wpAny_loadPart' hl
    repeat (first
      | (refine wpAny_ite_false (decide_eq_false (by decide)) ?_; wp_walk using wpAny_loadPart' hl)
      | (refine wpAny_ite_true (decide_eq_true c1) ?_; wp_walk using wpAny_loadPart' hl))
    all_goals first | exact ⟨_, rfl, h⟩ | trace_state
theorem op_repT1 : OpR X (binaryOp .Mult) (rRepT1 X.K) := by
  intro pins s σ H x y v u Q I rx ry h
  obtain ⟨l, xs, rfl, rfl, hT, q⟩ := h
  cases rx
  obtain ⟨t, rfl⟩ := ry
  obtain ⟨its, r, ⟨⟨cls, dd, data, sl⟩, ho, hc, n, hd⟩, hs⟩ := I.tuple hT
  simp only at hc hd
  subst hc hd
  exact wpAny_binaryOp_repeat_ref (T := "tuple") (U := "int") (by decide) ⟨_, ho, rfl⟩ (fun s' => typeIs_int s' 1 t) noFill_tuple_mul F.fills_int_mul F.slot_int_rmul repeat_tuple F.slot_int_index.lookup
    (call_meets F.slot_int_rmul (typeIs_int s 1 t) F.entry_int_rmul (F.args_int_rmul_2 _ _) (int_rmul_tuple 1 t l its.toArray n dd sl)
      ⟨ho, rfl, ⟨_, ho, rfl⟩, call_meets F.slot_tuple_mul ⟨_, ho, rfl⟩ F.entry_tuple_mul (F.args_tuple_mul_2 _ _) (tuple_mulW1 l its.toArray n dd sl t) ⟨ho, ⟨.ref l, H, I, rfl, q⟩⟩⟩)
open PyProof.Rows in
theorem tuple_mulW0 (l : Addr) (items : Array Value) (n : Nat) (dd : Option Addr) (sl : Array (Option Value)) (x : Int) (u : Tok) (b0 : (decide (x < -(2 ^ 63)) || decide (x ≥ 2 ^ 63)) = false) (b1 : (items.isEmpty || x == 1) = false) (b2 : (decide (x ≤ 0) || items.isEmpty) = true) :
    Meets (Builtin.«tuple.__mul__» ⟨[.ref l, .int x u], []⟩) (fun _ R s => s.heap.get? l = some { cls := .type "tuple", dict := dd, data := .seq items n, slots := sl } ∧
      R (.ok (.ret (Value.ref s.heap.objs.size))) { s with heap := s.heap.push { cls := Value.type "tuple", data := Data.seq #[] }, toks := s.toks }) :=
  .of_wp fun prog w A R s h => by
    obtain ⟨hp, g, d, tk, os⟩ := s
    obtain ⟨hl, h⟩ := h
    have f1 := AutoSeq1.idx_int
    wp_walk using wpAny_loadPart' hl
    repeat (first
      | (refine wpAny_ite_false (decide_eq_false (ne_true_of_eq_false b0)) ?_; wp_walk using wpAny_loadPart' hl)
      | (refine wpAny_ite_false (decide_eq_false (ne_true_of_eq_false b1)) ?_; wp_walk using wpAny_loadPart' hl)
      | (refine wpAny_ite_true (decide_eq_true b2) ?_; wp_walk using wpAny_loadPart' hl))
    all_goals exact ⟨_, rfl, h⟩
def rRepT0 (K : PySem.W.Frag) : R2 := fun x y H Q => ∃ l k xs, x = .ref l ∧ y = .int k ∧ SqT K H l xs ∧ xs ≠ [] ∧ -1000 ≤ k ∧ k ≤ 0 ∧ ∀ p, H p = none → Q (.ref p) (upd H p (.tup []))
theorem op_repT0 : OpR X (binaryOp .Mult) (rRepT0 X.K) := by
  intro pins s σ H x y v u Q I rx ry h
  obtain ⟨l, k, xs, rfl, rfl, hT, hne, h1, h2, q⟩ := h
  cases rx
  obtain ⟨t, rfl⟩ := ry
  obtain ⟨its, r, ⟨⟨cls, dd, data, sl⟩, ho, hc, n, hd⟩, hs⟩ := I.tuple hT
  simp only at hc hd
  subst hc hd
  have he : its ≠ [] := by
    rintro rfl
    exact hne (List.eq_nil_of_length_eq_zero r.length)
  have hi : its.toArray.isEmpty = false := by
    cases its with
    | nil => exact absurd rfl he
    | cons a b => rfl
  have b0 : (decide (k < -(2 ^ 63)) || decide (k ≥ 2 ^ 63)) = false := by
    simp only [Bool.or_eq_false_iff, decide_eq_false_iff_not]
    omega
  have b1 : (its.toArray.isEmpty || k == 1) = false := by
    simp only [hi, Bool.false_or, beq_eq_false_iff_ne]
    omega
  have b2 : (decide (k ≤ 0) || its.toArray.isEmpty) = true := by simp [h2]
  refine wpAny_binaryOp_repeat_ref (T := "tuple") (U := "int") (by decide) ⟨_, ho, rfl⟩ (fun s' => typeIs_int s' k t) noFill_tuple_mul F.fills_int_mul F.slot_int_rmul repeat_tuple F.slot_int_index.lookup
    (call_meets F.slot_int_rmul (typeIs_int s k t) F.entry_int_rmul (F.args_int_rmul_2 _ _) (int_rmul_tuple k t l its.toArray n dd sl)
      ⟨ho, rfl, ⟨_, ho, rfl⟩, call_meets F.slot_tuple_mul ⟨_, ho, rfl⟩ F.entry_tuple_mul (F.args_tuple_mul_2 _ _) (tuple_mulW0 l its.toArray n dd sl k t b0 b1 b2) ⟨ho, ?_⟩⟩)
  refine ⟨.ref s.heap.objs.size, _, I.laid (t' := s.toks) (o := .tup []) (fun b ob z => Heap.get?_push_of_some _ z) (Nat.le_refl _) ?_, rfl, q _ (I.hok.fresh (Nat.le_refl _))⟩
  exact ⟨Nat.zero_le _, _, .nil, IsTup.new _ _⟩
def rMulH (K : PySem.W.Frag) : R2 := fun x y H Q => (rI CMul (fun i j => .int (i * j)) x y H Q ∨ rI CMulW (fun i j => .int (i * j)) x y H Q) ∨ (rRep x y H Q ∨ (rRepT1 K x y H Q ∨ (rRepT0 K x y H Q ∨ rRepT K x y H Q)))
theorem op_mulH : OpR X (binaryOp .Mult) (rMulH X.K) := opr_or (opr_or op_mul op_mulW) (opr_or op_rep (opr_or op_repT1 (opr_or op_repT0 op_repT)))
theorem ab_mul {K : PySem.W.Frag} : Ab2 K (rMulH K) aMul := by
  intro H M x y dx dy Q Q' rx ry hv q k
  cases dx <;> cases dy <;> first | exact q.elim | skip
  case int.int i j =>
    obtain ⟨c, q⟩ := q
    rcases c with c | c
    · exact .inl (.inl ⟨i, j, rep_int_inv rx, rep_int_inv ry, c, k _ _ _ _ (Tp.refl H) rep_int hv q⟩)
    · exact .inl (.inr ⟨i, j, rep_int_inv rx, rep_int_inv ry, c, k _ _ _ _ (Tp.refl H) rep_int hv q⟩)
  case tup.int ds n =>
    obtain ⟨hne, h1, h2, h3, q⟩ := q
    obtain ⟨a, vs, e1, s1, r1⟩ := rep_tup_inv rx
    have l1 := r1.length
    by_cases hn : n = 1
    · subst hn
      refine .inr (.inr (.inl ⟨a, vs, e1, rep_int_inv ry, s1, k _ _ _ _ (Tp.refl H) (rep_tup s1 ?_) hv q⟩))
      simpa using r1
    · by_cases h0 : n ≤ 0
      · have e0 : (List.replicate n.toNat ds).flatten = [] := by
          rw [Int.toNat_of_nonpos h0]; rfl
        rw [e0] at q
        refine .inr (.inr (.inr (.inl ⟨a, n, vs, e1, rep_int_inv ry, s1, fun z => hne (List.length_eq_zero_iff.mp (by rw [l1, z]; rfl)), h1, h0, end_tup .nil hv q k⟩)))
      refine .inr (.inr (.inr (.inr ⟨a, n, vs, e1, rep_int_inv ry, s1, fun z => hne (List.length_eq_zero_iff.mp (by rw [l1, z]; rfl)), by omega, h2, by omega, end_tup (r1.flat n.toNat) hv q k⟩)))
  case ref.int a n =>
    obtain ⟨xs, h1, h2, h3, z, q⟩ := q
    obtain ⟨vs, e1, r1⟩ := view_lst hv h1
    have l1 := r1.length
    exact .inr (.inl ⟨a, n, vs, rep_ref_inv rx, rep_int_inv ry, e1, h3, h2, by rw [← l1]; exact z, end_lst (r1.flat n.toNat) hv q k⟩)
theorem ae_mul (ha : AE X a ta) (hb : AE X b tb) : AE X (.BinOp a .Mult b pos) (aOp aMul ta tb) := ae_op op_mulH ab_mul ha hb
def Pl : Nat → Dv → Prop
  | _, .non => True
  | _, .int _ => True
  | _, .str x => PyData.canLay0 (.str x) = true
  | n + 1, .tup xs => ∀ d ∈ xs, Pl n d
  | n + 1, .rol xs => ∀ d ∈ xs, Pl n d
  | _, _ => False
def pyP : Nat → Dv → PyData
  | _, .int i => .int i
  | _, .str x => .str x
  | n + 1, .tup xs => .tuple (xs.map (pyP n))
  | n + 1, .rol xs => .list (xs.map (pyP n))
  | _, _ => .none
section
variable {K : PySem.W.Frag} {H : Hp}
theorem dpAll_of {n : Nat} (ih : ∀ d v, Pl n d → Rep K H d v → Dp K H v (pyP n d)) : ∀ {xs : List Dv} {vs : List V}, (∀ d ∈ xs, Pl n d) → Reps K H xs vs → DpAll K H vs (xs.map (pyP n))
  | [], _, _, r => by rw [r.nil_inv]; exact .nil
  | d :: xs, _, h, r => by
    obtain ⟨v, w, rfl, r1, r2⟩ := r.cons_inv
    exact .cons (ih d v (h d (by simp)) r1) (dpAll_of ih (fun e he => h e (by simp [he])) r2)
theorem dp_of : ∀ (n : Nat) (d : Dv) (v : V), Pl n d → Rep K H d v → Dp K H v (pyP n d)
  | 0, .non, v, _, r => by rw [rep_non_inv r]; exact .non
  | n + 1, .non, v, _, r => by rw [rep_non_inv r]; exact .non
  | 0, .int i, v, _, r => by rw [rep_int_inv r]; exact .int i
  | n + 1, .int i, v, _, r => by rw [rep_int_inv r]; exact .int i
  | 0, .str i, v, _, r => by rw [rep_str_inv r]; exact .str i
  | n + 1, .str i, v, _, r => by rw [rep_str_inv r]; exact .str i
  | n + 1, .tup xs, v, h, r => by
    obtain ⟨a, vs, e, s, z⟩ := rep_tup_inv r
    subst e
    exact .tup s (dpAll_of (dp_of n) h z)
  | n + 1, .rol xs, v, h, r => by
    obtain ⟨a, vs, e, s, z⟩ := rep_rol_inv r
    subst e
    exact .lst s.l (dpAll_of (dp_of n) h z)
theorem canLayAll_of {f : Dv → PyData} : ∀ {xs : List Dv}, (∀ d ∈ xs, (f d).canLay0 = true) → PyData.canLayAll0 (xs.map f) = true
  | [], _ => by simp [PyData.canLayAll0]
  | d :: xs, h => by
    have h1 := h d (by simp)
    have h2 := canLayAll_of fun e (he : e ∈ xs) => h e (List.mem_cons_of_mem _ he)
    simp [PyData.canLayAll0, h1, h2]
theorem canLay_pl : ∀ (n : Nat) (d : Dv), Pl n d → (pyP n d).canLay0 = true
  | 0, .non, _ => by simp [pyP, PyData.canLay0]
  | n + 1, .non, _ => by simp [pyP, PyData.canLay0]
  | 0, .int _, _ => by simp [pyP, PyData.canLay0]
  | n + 1, .int _, _ => by simp [pyP, PyData.canLay0]
  | 0, .str _, h => h
  | n + 1, .str _, h => h
  | n + 1, .tup xs, h => by
    simp only [pyP, PyData.canLay0]
    exact canLayAll_of fun d hd => canLay_pl n d (h d hd)
  | n + 1, .rol xs, h => by
    simp only [pyP, PyData.canLay0]
    exact canLayAll_of fun d hd => canLay_pl n d (h d hd)
theorem depthAll_of {f : Dv → PyData} {n : Nat} : ∀ {xs : List Dv}, (∀ d ∈ xs, (f d).depth ≤ n) → PyData.depthAll (xs.map f) ≤ n
  | [], _ => by simp [PyData.depthAll]
  | d :: xs, h => by
    have h1 := h d (by simp)
    have h2 := depthAll_of fun e he => h e (List.mem_cons_of_mem _ he)
    simp [PyData.depthAll]
    omega
theorem depth_pl : ∀ (n : Nat) (d : Dv), Pl n d → (pyP n d).depth ≤ n
  | 0, .non, _ => by simp [pyP, PyData.depth]
  | n + 1, .non, _ => by simp [pyP, PyData.depth]
  | 0, .int _, _ => by simp [pyP, PyData.depth]
  | n + 1, .int _, _ => by simp [pyP, PyData.depth]
  | 0, .str _, h => by simp [pyP, PyData.depth]
  | n + 1, .str _, h => by simp [pyP, PyData.depth]
  | n + 1, .tup xs, h => by
    simp only [pyP, PyData.depth]
    have := depthAll_of fun d hd => depth_pl n d (h d hd)
    omega
  | n + 1, .rol xs, h => by
    simp only [pyP, PyData.depth]
    have := depthAll_of fun d hd => depth_pl n d (h d hd)
    omega
theorem eqvAll_of {n : Nat} (ih : ∀ d e, Pl n d → Pl n e → (PyData.eqv (pyP n d) (pyP n e) = true ↔ d = e)) : ∀ {xs ys : List Dv}, (∀ d ∈ xs, Pl n d) → (∀ d ∈ ys, Pl n d) → (PyData.eqvAll (xs.map (pyP n)) (ys.map (pyP n)) = true ↔ xs = ys)
  | [], [], _, _ => by simp [PyData.eqvAll]
  | [], _ :: _, _, _ => by simp [PyData.eqvAll]
  | _ :: _, [], _, _ => by simp [PyData.eqvAll]
  | d :: xs, e :: ys, h, h' => by
    have h1 := ih d e (h d (by simp)) (h' e (by simp))
    have h2 := eqvAll_of ih (xs := xs) (ys := ys) (fun z hz => h z (by simp [hz])) fun z hz => h' z (by simp [hz])
    simp [PyData.eqvAll, h1, h2]
theorem eqv_pl : ∀ (n : Nat) (d e : Dv), Pl n d → Pl n e → (PyData.eqv (pyP n d) (pyP n e) = true ↔ d = e) := by
  intro n
  induction n with
  | zero =>
    intro d e hd he
    cases d <;> cases e <;> first | exact hd.elim | exact he.elim | simp [pyP, PyData.eqv]
  | succ n ih =>
    intro d e hd he
    cases d <;> cases e <;> first | exact hd.elim | exact he.elim | skip
    case tup.tup xs ys =>
      have := eqvAll_of ih (xs := xs) (ys := ys) hd he
      simp only [pyP, PyData.eqv, this, Dv.tup.injEq]
    case rol.rol xs ys =>
      have := eqvAll_of ih (xs := xs) (ys := ys) hd he
      simp only [pyP, PyData.eqv, this, Dv.rol.injEq]
    all_goals simp [pyP, PyData.eqv]
open Classical in
theorem eqv_dec (n : Nat) (d e : Dv) (hd : Pl n d) (he : Pl n e) : PyData.eqv (pyP n d) (pyP n e) = decide (d = e) := by
  by_cases h : d = e
  · rw [decide_eq_true h]; exact (eqv_pl n d e hd he).mpr h
  · rw [decide_eq_false h]
    cases q : PyData.eqv (pyP n d) (pyP n e) with
    | false => rfl
    | true => exact absurd ((eqv_pl n d e hd he).mp q) h
end
open Classical in
noncomputable def aEqB (x y : Dv) (M : Ms) (Q : Bool → Prop) : Prop := match x, y with
  | .bl a, .bl b => Q (a == b)
  | .ref a, .ref b => ∃ xs ys, M a = some (.lst xs) ∧ M b = some (.lst ys) ∧ (∀ d ∈ xs, Pl 8 d) ∧ (∀ d ∈ ys, Pl 8 d) ∧ Q (decide (xs = ys))
  | .ref a, .rol ys => ∃ xs, M a = some (.lst xs) ∧ Pl 9 (.rol xs) ∧ Pl 9 (.rol ys) ∧ Q (decide (xs = ys))
  | .rol xs, .ref b => ∃ ys, M b = some (.lst ys) ∧ Pl 9 (.rol xs) ∧ Pl 9 (.rol ys) ∧ Q (decide (xs = ys))
  | x, y => Pl 9 x ∧ Pl 9 y ∧ Q (decide (x = y))
noncomputable def aEq : AR2 := fun x y M Q => aEqB x y M fun b => Q (.bl b) M
noncomputable def aNe : AR2 := fun x y M Q => aEqB x y M fun b => Q (.bl (!b)) M
theorem shaped_of {d : PyData} (h1 : d.canLay0 = true) (h2 : d.depth ≤ 20) : SeqAt.shaped d = true := by
  unfold SeqAt.shaped
  rw [h1, Bool.true_and]
  exact decide_eq_true (by omega)
open Classical in
theorem aEqB_ok {K : PySem.W.Frag} {H : Hp} {M : Ms} {x y : V} {dx dy : Dv} {P : Bool → Prop} (rx : Rep K H dx x) (ry : Rep K H dy y) (hv : View K M H) (h : aEqB dx dy M P) :
    ∃ d e, Dp K H x d ∧ Dp K H y e ∧ SeqAt.shaped d = true ∧ SeqAt.shaped e = true ∧ P (PyData.eqv d e) := by
  have gen : Pl 9 dx → Pl 9 dy → P (decide (dx = dy)) → ∃ d e, Dp K H x d ∧ Dp K H y e ∧ SeqAt.shaped d = true ∧ SeqAt.shaped e = true ∧ P (PyData.eqv d e) := fun h1 h2 q => by
    have d1 := depth_pl 9 _ h1
    have d2 := depth_pl 9 _ h2
    exact ⟨_, _, dp_of 9 _ _ h1 rx, dp_of 9 _ _ h2 ry, shaped_of (canLay_pl _ _ h1) (by omega), shaped_of (canLay_pl _ _ h2) (by omega), by rw [eqv_dec 9 _ _ h1 h2]; exact q⟩
  unfold aEqB at h
  split at h
  · next a b =>
    rw [rep_bl_inv rx, rep_bl_inv ry]
    refine ⟨.bool a, .bool b, .bl a, .bl b, by rfl, by rfl, ?_⟩
    simp only [PyData.eqv]
    exact h
  · next a b =>
    obtain ⟨xs, ys, h1, h2, p1, p2, q⟩ := h
    obtain ⟨vs, e1, r1⟩ := view_lst hv h1
    obtain ⟨ws, e2, r2⟩ := view_lst hv h2
    rw [rep_ref_inv rx, rep_ref_inv ry]
    have c1 : PyData.canLay0 (.list (xs.map (pyP 8))) = true := by simp only [PyData.canLay0]; exact canLayAll_of fun d hd => canLay_pl 8 d (p1 d hd)
    have c2 : PyData.canLay0 (.list (ys.map (pyP 8))) = true := by simp only [PyData.canLay0]; exact canLayAll_of fun d hd => canLay_pl 8 d (p2 d hd)
    have z1 : PyData.depth (.list (xs.map (pyP 8))) ≤ 20 := by
      have := depthAll_of fun d hd => depth_pl 8 d (p1 d hd)
      simp only [PyData.depth]; omega
    have z2 : PyData.depth (.list (ys.map (pyP 8))) ≤ 20 := by
      have := depthAll_of fun d hd => depth_pl 8 d (p2 d hd)
      simp only [PyData.depth]; omega
    refine ⟨_, _, .lst (.inl (.inl e1)) (dpAll_of (dp_of 8) p1 r1), .lst (.inl (.inl e2)) (dpAll_of (dp_of 8) p2 r2), shaped_of c1 z1, shaped_of c2 z2, ?_⟩
    have e := eqvAll_of (eqv_pl 8) p1 p2
    have e' : PyData.eqv (.list (xs.map (pyP 8))) (.list (ys.map (pyP 8))) = decide (xs = ys) := by
      simp only [PyData.eqv]
      by_cases q : xs = ys
      · rw [decide_eq_true q]; exact e.mpr q
      · rw [decide_eq_false q]
        cases w : PyData.eqvAll (xs.map (pyP 8)) (ys.map (pyP 8)) with
        | false => rfl
        | true => exact absurd (e.mp w) q
    rw [e']; exact q
  · next a ys =>
    obtain ⟨xs, h1, p1, p2, q⟩ := h
    obtain ⟨vs, e1, r1⟩ := view_lst hv h1
    rw [rep_ref_inv rx]
    have d1 := depth_pl 9 _ p1
    have d2 := depth_pl 9 _ p2
    have eq : decide (Dv.rol xs = Dv.rol ys) = decide (xs = ys) := by simp only [Dv.rol.injEq]
    refine ⟨pyP 9 (.rol xs), _, ?_, dp_of 9 _ _ p2 ry, shaped_of (canLay_pl _ _ p1) (by omega), shaped_of (canLay_pl _ _ p2) (by omega), by rw [eqv_dec 9 _ _ p1 p2, eq]; exact q⟩
    show Dp K H (.ref a) (.list (xs.map (pyP 8)))
    exact .lst (.inl (.inl e1)) (dpAll_of (dp_of 8) p1 r1)
  · next xs b =>
    obtain ⟨ys, h1, p1, p2, q⟩ := h
    obtain ⟨vs, e1, r1⟩ := view_lst hv h1
    rw [rep_ref_inv ry]
    have d1 := depth_pl 9 _ p1
    have d2 := depth_pl 9 _ p2
    have eq : decide (Dv.rol xs = Dv.rol ys) = decide (xs = ys) := by simp only [Dv.rol.injEq]
    refine ⟨_, pyP 9 (.rol ys), dp_of 9 _ _ p1 rx, ?_, shaped_of (canLay_pl _ _ p1) (by omega), shaped_of (canLay_pl _ _ p2) (by omega), by rw [eqv_dec 9 _ _ p1 p2, eq]; exact q⟩
    show Dp K H (.ref b) (.list (ys.map (pyP 8)))
    exact .lst (.inl (.inl e1)) (dpAll_of (dp_of 8) p2 r1)
  · exact gen h.1 h.2.1 h.2.2
theorem ab_eq {K : PySem.W.Frag} : Ab2 K (rEqD K) aEq := fun H M x y dx dy Q Q' rx ry hv q k => by
  obtain ⟨d, e, h1, h2, h3, h4, q⟩ := aEqB_ok rx ry hv q
  exact ⟨d, e, h1, h2, h3, h4, k _ _ _ _ (Tp.refl H) rep_bl hv q⟩
theorem ab_ne {K : PySem.W.Frag} : Ab2 K (rNeD K) aNe := fun H M x y dx dy Q Q' rx ry hv q k => by
  obtain ⟨d, e, h1, h2, h3, h4, q⟩ := aEqB_ok rx ry hv q
  exact ⟨d, e, h1, h2, h3, h4, k _ _ _ _ (Tp.refl H) rep_bl hv q⟩
theorem ae_eq (hu : X.A.units + 64 < cLine) (ha : AE X a ta) (hb : AE X b tb) : AE X (.Compare a [.Eq] [b] pos) (aOp aEq ta tb) := ae_cmp (op_eqD hu) ab_eq ha hb (nomark _)
theorem at_eq (hu : X.A.units + 64 < cLine) (ha : AE X a ta) (hb : AE X b tb) : AT X (.Compare a [.Eq] [b] pos) (aB (aOp aEq ta tb)) := at_cmp (op_eqD hu) ab_eq ha hb (nomark _)
theorem at_ne (hu : X.A.units + 64 < cLine) (ha : AE X a ta) (hb : AE X b tb) : AT X (.Compare a [.NotEq] [b] pos) (aB (aOp aNe ta tb)) := at_cmp (op_neD hu) ab_ne ha hb (nomark _)
end
end HC
set_option maxHeartbeats 4000000
namespace HC
open PySem L2
abbrev RG := Dv → Env' → Ms → (Env' → Ms → Prop) → Prop
abbrev RGs := List Dv → Env' → Ms → (Env' → Ms → Prop) → Prop
def cG (K : PySem.W.Frag) (t : RG) : TG := fun v σ H Q' => ∃ d ρ M Q, Rep K H d v ∧ RepE K H ρ σ ∧ View K M H ∧ t d ρ M Q ∧ LkS K H Q Q'
def cGs (K : PySem.W.Frag) (t : RGs) : TGs := fun vs σ H Q' => ∃ ds ρ M Q, Reps K H ds vs ∧ RepE K H ρ σ ∧ View K M H ∧ t ds ρ M Q ∧ LkS K H Q Q'
def AG (X : Cx) (e : Expr) (t : RG) : Prop := PG X e (cG X.K t)
def AGs (X : Cx) (es : List Expr) (t : RGs) : Prop := PGs X es (cGs X.K t)
theorem pg_imp {X : Cx} {e : Expr} {t t' : TG} (h : PG X e t) (f : ∀ v σ H Q, t' v σ H Q → t v σ H Q) : PG X e t' := ⟨fun pins s σ H v u Q I r q => h.run pins s σ H v u Q I r (f _ _ _ _ q)⟩
theorem pgs_imp {X : Cx} {e : List Expr} {t t' : TGs} (h : PGs X e t) (f : ∀ v σ H Q, t' v σ H Q → t v σ H Q) : PGs X e t' := ⟨fun pins s σ H v u Q I r q => h.run pins s σ H v u Q I r (f _ _ _ _ q)⟩
theorem pg_or {X : Cx} {e : Expr} {t t' : TG} (h : PG X e t) (h' : PG X e t') : PG X e (fun v σ H Q => t v σ H Q ∨ t' v σ H Q) := ⟨fun pins s σ H v u Q I r q => q.elim (fun q => h.run pins s σ H v u Q I r q) (fun q => h'.run pins s σ H v u Q I r q)⟩
section
variable {X : Cx} {pos : Pos} {e : Expr} {es : List Expr}
def agName (i : Nat) : RG := fun d ρ M Q => Q (ρ.set i (some d)) M
theorem ag_name (i : Nat) {x : Str} (hN : X.N.Nodup) (hi : X.N[i]? = some x := by rfl) (hx : Loc X.env.scope x := by first | exact .inl rfl | exact .inr rfl) (hf : X.fn x = true ∨ X.env.scope.names.lookup x = some .local := by first | exact .inl rfl | exact .inr rfl) : AG X (.Name x pos) (agName i) :=
  pg_imp (pg_name hN hi hx hf) fun v σ H Q' ⟨d, ρ, M, Q, rd, hr, hv, q, k⟩ => k _ _ _ _ (Tp.refl H) (hr.set i rd) hv q
def agNil : RGs := fun ds ρ M Q => ds = [] ∧ Q ρ M
def agCons (t : RG) (u : RGs) : RGs := fun ds ρ M Q => match ds with
  | [] => False
  | d :: r => t d ρ M fun ρ1 M1 => u r ρ1 M1 Q
theorem ags_nil : AGs X [] agNil := pgs_imp pgs_nil fun v σ H Q' ⟨d, ρ, M, Q, rd, hr, hv, ⟨e, q⟩, k⟩ => by
  subst e
  exact ⟨rd.nil_inv, k _ _ _ _ (Tp.refl H) hr hv q⟩
theorem ags_cons {t : RG} {u : RGs} (h1 : AG X e t) (h2 : AGs X es u) (hs : (assignEach (e :: es) X.env).map (·.2) = assign e X.env :: (assignEach es X.env).map (·.2) := by rfl) : AGs X (e :: es) (agCons t u) :=
  pgs_imp (pgs_cons h1 h2 hs) fun vs σ H Q' ⟨ds, ρ, M, Q, rd, hr, hv, q, k⟩ => by
    cases ds with
    | nil => exact q.elim
    | cons d r =>
      obtain ⟨v, vr, e1, r1, r2⟩ := rd.cons_inv
      exact ⟨v, vr, e1, d, ρ, M, _, r1, hr, hv, q, fun σ1 H1 ρ1 M1 t1 hr1 hv1 q1 => ⟨r, ρ1, M1, Q, r2.mono t1, hr1, hv1, q1, k.up t1⟩⟩
def itemsA : Dv → Ms → Option (List Dv)
  | .tup ds, _ => some ds
  | .rol ds, _ => some ds
  | .tuc ds, _ => some ds
  | .ref a, M => match M a with | some (.lst ds) => some ds | _ => none
  | _, _ => none
theorem itemsA_ok {K : PySem.W.Frag} {M : Ms} {H : Hp} {d : Dv} {v : V} {ds : List Dv} (r : Rep K H d v) (hv : View K M H) (h : itemsA d M = some ds) : ∃ a vs, v = .ref a ∧ (SqT K H a vs ∨ SqL K H a vs) ∧ Reps K H ds vs := by
  cases d with
  | tup es =>
    cases h
    obtain ⟨a, vs, e, s, z⟩ := (show ∃ a vs, v = .ref a ∧ SqT K H a vs ∧ Reps K H ds vs by simpa only [Rep] using r)
    exact ⟨a, vs, e, .inl s, z⟩
  | rol es =>
    cases h
    obtain ⟨a, vs, e, s, z⟩ := (show ∃ a vs, v = .ref a ∧ SqF K H a vs ∧ Reps K H ds vs by simpa only [Rep] using r)
    exact ⟨a, vs, e, .inr s.l, z⟩
  | exc _ _ => cases h
  | tuc es =>
    cases h
    obtain ⟨a, vs, e, s, z⟩ := (show ∃ a vs, v = .ref a ∧ SqC H a vs ∧ Reps K H ds vs by simpa only [Rep] using r)
    exact ⟨a, vs, e, .inl s.t, z⟩
  | ref a =>
    have e : v = .ref a := by simpa only [Rep] using r
    simp only [itemsA] at h
    cases q : M a with
    | none => rw [q] at h; cases h
    | some c =>
      rw [q] at h
      cases c with
      | dic _ => cases h
      | dit _ => cases h
      | fdc _ => cases h
      | obj _ _ => cases h
      | tab _ => cases h
      | cod _ => cases h
      | lst es =>
        cases h
        obtain ⟨vs, h1, h2⟩ := hv a _ q
        exact ⟨a, vs, e, .inr (.inl (.inl h1)), h2⟩
  | non => cases h
  | bl _ => cases h
  | int _ => cases h
  | str _ => cases h
  | ty _ => cases h
def agTup (n : Nat) (t : RGs) : RG := fun d ρ M Q => onS (itemsA d M) fun ds => ds.length = n ∧ t ds ρ M Q
theorem ag_tup {k : Nat} {t : RGs} {n : Nat} (hc : X.calm = true) (h : AGs X es t) (hn : (assignEach es X.env).length = n := by rfl) (hst : (assignEach es X.env).findIdx? (·.1) = none := by rfl) : AG X (.Tuple es k pos) (agTup n t) :=
  pg_imp (pg_or (pg_tup hc h hn hst) (pg_lst hc h hn hst)) fun v σ H Q' ⟨d, ρ, M, Q, rd, hr, hv, q, k⟩ => by
    obtain ⟨ds, e, hl, q⟩ := onS_ex q
    obtain ⟨a, vs, e1, s, z⟩ := itemsA_ok rd hv e
    rcases s with s | s
    · exact .inl ⟨a, vs, e1, s, by rw [← z.length]; exact hl, ds, ρ, M, Q, z, hr, hv, q, k⟩
    · exact .inr ⟨a, vs, e1, s, by rw [← z.length]; exact hl, ds, ρ, M, Q, z, hr, hv, q, k⟩
end
section
variable {X : Cx} {pos : Pos} {a b c e tg : Expr} {te : RE} {st : Stmt} {sts rest : List Stmt} {t u : RS} {tc : RT} {g : RG}
theorem seqS {K : PySem.W.Frag} {ρ : Env'} {σ : L2.St} {M : Ms} {H : Hp} {t : RS} {D : Ends'} {D' : Ends} (hr : RepE K H ρ σ) (hv : View K M H) (h : t D ρ M) (k : LkD K H D D') : cS K t D' σ H := ⟨ρ, M, D, hr, hv, h, k⟩
def aNext : RS := fun D ρ M => D.nx ρ M
def aSeq (t u : RS) : RS := fun D ρ M => t { D with nx := u D } ρ M
theorem next_imp {K : PySem.W.Frag} : ∀ D σ H, cS K aNext D σ H → tNext D σ H := fun D' σ H ⟨ρ, M, D, hr, hv, q, k⟩ => k.nx _ _ _ _ (Tp.refl H) hr hv q
theorem ass_nil : ASs X [] aNext := pss_imp pss_nil next_imp
theorem ass_cons (h1 : AS X st t) (h2 : ASs X rest u) : ASs X (st :: rest) (aSeq t u) :=
  pss_imp (pss_cons h1 h2) fun D' σ H ⟨ρ, M, D, hr, hv, q, k⟩ => seqS (D := { D with nx := u D }) hr hv q ⟨fun σ1 H1 ρ1 M1 t1 r1 v1 q1 => seqS r1 v1 q1 (k.up t1), k.rt, k.bk, k.ct⟩
theorem ass_one (h : AS X st t) : ASs X [st] t := pss_one h
def aDrop (te : RE) : RS := fun D ρ M => te ρ M fun _ M1 => D.nx ρ M1
theorem as_expr (h : AE X e te) (hs : swapsWith e none pos.line X.env = pure false := by rfl) : AS X (.Expr e pos) (aDrop te) := ps_imp (ps_expr h hs) fun D' σ H ⟨ρ, M, D, hr, hv, q, k⟩ => seqE hr hv q fun v H1 d M1 t1 r1 v1 q1 => k.nx _ _ _ _ t1 (hr.mono t1) v1 q1
def aRet (te : RE) : RS := fun D ρ M => te ρ M D.rt
theorem as_ret (h : AE X e te) : AS X (.Return (some e) pos) (aRet te) := ps_imp (ps_ret h) fun D' σ H ⟨ρ, M, D, hr, hv, q, k⟩ => seqE hr hv q k.rt
def aIfS (tc : RT) (t u : RS) : RS := fun D ρ M => tc ρ M fun b M1 => onIf b (t D ρ M1) (u D ρ M1)
theorem as_if {as bs : List Stmt} (hc : AT X c tc) (h1 : ASs X as t) (h2 : ASs X bs u) : AS X (.If c as bs pos) (aIfS tc t u) :=
  ps_imp (ps_if hc h1 h2) fun D' σ H ⟨ρ, M, D, hr, hv, q, k⟩ => seqT hr hv q fun b H1 M1 t1 v1 q1 => by
    cases b with
    | true => exact seqS (hr.mono t1) v1 q1 (k.up t1)
    | false => exact seqS (hr.mono t1) v1 q1 (k.up t1)
def aAsg (te : RE) (g : RG) : RS := fun D ρ M => te ρ M fun d M1 => g d ρ M1 D.nx
theorem as_asg (he : AE X e te) (hg : AG X tg g) (hs : swapsWithSole [tg] e pos.line X.env = pure false := by rfl) (hw : swappedStores [tg] e X.env = pure none := by rfl)
    (h1 : (assignEach [tg] X.env).map (·.2) = [assign tg X.env] := by rfl) : AS X (.Assign [tg] e pos) (aAsg te g) :=
  ps_imp (ps_asg he hg hs hw h1) fun D' σ H ⟨ρ, M, D, hr, hv, q, k⟩ => seqE hr hv q fun v H1 d M1 t1 r1 v1 q1 => ⟨d, ρ, M1, D.nx, r1, hr.mono t1, v1, q1, k.nx.up t1⟩
theorem asg_name_imp {K : PySem.W.Frag} {i : Nat} {te' : TE} (h : ∀ σ H Q, cE K te σ H Q → te' σ H Q) : ∀ D σ H, cS K (aAsg te (agName i)) D σ H → tAsg te' (gName i) D σ H := fun D' σ H ⟨ρ, M, D, hr, hv, q, k⟩ =>
  h _ _ _ (seqE hr hv q fun v H1 d M1 t1 r1 v1 q1 => k.nx _ _ _ _ t1 ((hr.mono t1).set i r1) v1 q1)
theorem as_set (i : Nat) {x : Str} {pos' : Pos} (hN : X.N.Nodup) (he : AE X e te) (hi : X.N[i]? = some x := by rfl) (hx : Loc X.env.scope x := by first | exact .inl rfl | exact .inr rfl) (hs : swapsWith e (some (.Name x pos')) pos.line X.env = pure false := by rfl) (hf : X.fn x = true ∨ X.env.scope.names.lookup x = some .local := by first | exact .inl rfl | exact .inr rfl) :
    AS X (.Assign [.Name x pos'] e pos) (aAsg te (agName i)) := ps_imp (ps_set hN hi hx he hs hf) (asg_name_imp fun _ _ _ q => q)
def aPar (i j : Nat) (ta : RA) : RS := fun D ρ M => ta ρ M fun ds M1 => match ds with
  | [d, f] => D.nx ((ρ.set i (some d)).set j (some f)) M1
  | _ => False
theorem as_par (i j : Nat) {x y : Str} {ta : RA} {px py pt : Pos} {kt k2 pt2} (hc : X.calm = true) (hN : X.N.Nodup) (ha : AA X [a, b] ta) (hi : X.N[i]? = some x := by rfl) (hj : X.N[j]? = some y := by rfl) (hij : i ≠ j := by decide)
    (hx : X.env.scope.names.lookup x = some .local := by rfl) (hy : X.env.scope.names.lookup y = some .local := by rfl)
    (hw : swappedStores [.Tuple [.Name x px, .Name y py] kt pt] (.Tuple [a, b] k2 pt2) X.env = pure (some [x, y]) := by rfl)
    (hs : swapsWithSole [.Tuple [.Name x px, .Name y py] kt pt] (.Tuple [a, b] k2 pt2) pos.line X.env = pure false := by rfl) :
    AS X (.Assign [.Tuple [.Name x px, .Name y py] kt pt] (.Tuple [a, b] k2 pt2) pos) (aPar i j ta) :=
  ps_imp (ps_par hc hN hi hj hij hx hy ha hw hs) fun D' σ H ⟨ρ, M, D, hr, hv, q, k⟩ => ⟨ρ, M, _, hr, hv, q, fun vs H1 ds M1 t1 r1 v1 q1 => by
    match ds, r1, q1 with
    | [d, f], r1, q1 =>
      obtain ⟨v, _, e1, z1, r2⟩ := r1.cons_inv
      obtain ⟨w, _, e2, z2, r3⟩ := r2.cons_inv
      have e3 := r3.nil_inv
      subst e1 e2 e3
      exact ⟨v, w, rfl, k.nx _ _ _ _ t1 (((hr.mono t1).set i z1).set j z2) v1 q1⟩⟩
end
abbrev RI := Env' → Ms → (List Dv → (Ms → Prop) → Ms → Prop) → Prop
structure IW (K : PySem.W.Frag) (J : It) (ds : List Dv) (keep : Ms → Prop) (H0 : Hp) : Prop where
  go : ∀ i H M, i < ds.length → Tp K H0 H → View K M H → keep M → J.go i H
  stop : ∀ H M, Tp K H0 H → View K M H → keep M → J.stop ds.length H
  yld : ∀ i H M x H', i < ds.length → Tp K H0 H → View K M H → keep M → J.yld i H x H' → ∃ d, ds[i]? = some d ∧ Tp K H H' ∧ Rep K H' d x ∧ View K M H' ∧ (∀ a, H a ≠ none → H' a = H a)
def cI (K : PySem.W.Frag) (ai : RI) : TI := fun σ H R => ∃ ρ M Q, RepE K H ρ σ ∧ View K M H ∧ ai ρ M Q ∧ ∀ J H' ds keep M', Tp K H H' → View K M' H' → Q ds keep M' → IW K J ds keep H' → R J H'
def AI (X : Cx) (tg iter : Expr) (ai : RI) : Prop := PI X tg iter (cI X.K ai)
theorem pi_imp {X : Cx} {tg e : Expr} {t t' : TI} (h : PI X tg e t) (f : ∀ σ H Q, t' σ H Q → t σ H Q) : PI X tg e t' := ⟨fun pins s σ H Q I q => h.run pins s σ H Q I (f _ _ _ q)⟩
def forW0 (keep : Ms → Prop) (g : RG) (tb : RS) (D : Ends') : List Dv → Env' → Ms → Prop
  | [], ρ, M => keep M ∧ D.nx ρ M
  | d :: ds, ρ, M => keep M ∧ ∃ N : Env' → Ms → Prop, (∀ ρ1 M1, N ρ1 M1 → forW0 keep g tb D ds ρ1 M1) ∧ g d ρ M fun ρ1 M1 => tb { D with nx := wk N, ct := wk N, bk := D.nx } ρ1 M1
@[irreducible] def forW (keep : Ms → Prop) (g : RG) (tb : RS) (D : Ends') (ds : List Dv) (ρ : Env') (M : Ms) : Prop := forW0 keep g tb D ds ρ M
theorem forW_eqn {keep : Ms → Prop} {g : RG} {tb : RS} {D : Ends'} {ρ : Env'} {M : Ms} : forW keep g tb D [] ρ M = (keep M ∧ D.nx ρ M) := by unfold forW; rfl
theorem forW_eqc {keep : Ms → Prop} {g : RG} {tb : RS} {D : Ends'} {d : Dv} {ds : List Dv} {ρ : Env'} {M : Ms} : forW keep g tb D (d :: ds) ρ M = (keep M ∧ ∃ N : Env' → Ms → Prop, (∀ ρ1 M1, N ρ1 M1 → forW keep g tb D ds ρ1 M1) ∧ g d ρ M fun ρ1 M1 => tb { D with nx := wk N, ct := wk N, bk := D.nx } ρ1 M1) := by unfold forW; rfl
def aFor (ai : RI) (g : RG) (tb : RS) : RS := fun D ρ M => ai ρ M fun ds keep M1 => forW keep g tb D ds ρ M1
section
variable {X : Cx} {pos : Pos} {tg iter : Expr} {ai : RI} {g : RG} {t : RS}
theorem drop_cons {α : Type} {l : List α} {i : Nat} {d : α} (h : l[i]? = some d) : l.drop i = d :: l.drop (i + 1) := by
  have hl := (List.getElem?_eq_some_iff.mp h).1
  rw [List.drop_eq_getElem_cons hl]
  have : l[i] = d := (List.getElem?_eq_some_iff.mp h).2
  rw [this]
theorem as_for {body : List Stmt} (hp : PassesOwn (model X.prog X.w) X.A X.env X.xe) (hc : X.calm = true) (hi : AI X tg iter ai) (hg : AG X tg g) (hb : ASs X body t)
    (hs : ∀ x, foldedSetIterable iter X.env x = pure x := by intro _; rfl) : AS X (.For tg iter body [] pos) (aFor ai g t) :=
  ps_imp (ps_for hp hc hi hg hb hs) fun D' σ H h => by
    obtain ⟨ρ, M, D, hr, hv, q, k⟩ := h
    refine ⟨ρ, M, _, hr, hv, q, fun J H1 ds keep M1 t1 v1 q1 iw => ?_⟩
    refine ⟨fun i m σ2 H2 => m = ds.length - i ∧ i ≤ ds.length ∧ ∃ ρ2 M2, Tp X.K H1 H2 ∧ RepE X.K H2 ρ2 σ2 ∧ View X.K M2 H2 ∧ forW keep g t D (ds.drop i) ρ2 M2, ⟨ds.length, by simp, Nat.zero_le _, ρ, M1, Tp.refl _, hr.mono t1, v1, by simpa using q1⟩, ?_⟩
    rintro i m σ2 H2 ⟨rfl, hi', ρ2, M2, t2, r2, v2, q2⟩
    by_cases hlt : i < ds.length
    · rw [drop_cons (List.getElem?_eq_getElem hlt), forW_eqc] at q2
      obtain ⟨kp, Nx, hN, q2⟩ := q2
      refine .inr ⟨iw.go i H2 M2 hlt t2 v2 kp, fun σ3 H3 => ∃ ρ3 M3, Tp X.K H1 H3 ∧ RepE X.K H3 ρ3 σ3 ∧ View X.K M3 H3 ∧ Nx ρ3 M3, ?_, ?_⟩
      · rintro σ3 H3 ⟨ρ3, M3, t3, r3, v3, q3⟩
        exact ⟨ds.length - (i + 1), by omega, rfl, hlt, ρ3, M3, t3, r3, v3, hN _ _ q3⟩
      · intro x H3 hy
        obtain ⟨d, hd, t3, rd, v3, _⟩ := iw.yld i H2 M2 x H3 hlt t2 v2 kp hy
        have e : d = ds[i] := by rw [List.getElem?_eq_getElem hlt] at hd; exact (Option.some.inj hd).symm
        subst e
        refine ⟨_, ρ2, M2, _, rd, r2.mono t3, v3, q2, fun σ4 H4 ρ4 M4 t4 r4 v4 q4 => ?_⟩
        have tt := t2.trans (t3.trans t4)
        refine seqS r4 v4 q4 ⟨fun σ5 H5 ρ5 M5 t5 r5 v5 ⟨ρ6, M6, se, sm, q5⟩ => ⟨ρ6, M6, tt.trans t5, se.rep r5, v5.sub sm, q5⟩, k.rt.up (t1.trans tt), k.nx.up (t1.trans tt), fun σ5 H5 ρ5 M5 t5 r5 v5 ⟨ρ6, M6, se, sm, q5⟩ => ⟨ρ6, M6, tt.trans t5, se.rep r5, v5.sub sm, q5⟩⟩
    · have e : i = ds.length := by omega
      subst e
      rw [List.drop_length, forW_eqn] at q2
      exact .inl ⟨iw.stop H2 M2 t2 v2 q2.1, k.nx _ _ _ _ (t1.trans t2) r2 v2 q2.2⟩
theorem forW_inv {keep : Ms → Prop} {D : Ends'} {ds : List Dv} {ρ : Env'} {M : Ms} (P : Nat → Env' → Ms → Prop) (h0 : P 0 ρ M) (hk : ∀ i ρ M, i ≤ ds.length → P i ρ M → keep M)
    (hs : ∀ i d ρ M, ds[i]? = some d → P i ρ M → g d ρ M fun ρ1 M1 => t { D with nx := wk (P (i + 1)), ct := wk (P (i + 1)), bk := D.nx } ρ1 M1) (hd : ∀ ρ M, P ds.length ρ M → D.nx ρ M) : forW keep g t D ds ρ M := by
  have main : ∀ (n i : Nat), i + n = ds.length → ∀ ρ M, P i ρ M → forW keep g t D (ds.drop i) ρ M := by
    intro n
    induction n with
    | zero =>
      intro i hi ρ M p
      have e : i = ds.length := by omega
      subst e
      rw [List.drop_length, forW_eqn]
      exact ⟨hk _ _ _ (Nat.le_refl _) p, hd _ _ p⟩
    | succ n ih =>
      intro i hi ρ M p
      have hlt : i < ds.length := by omega
      rw [drop_cons (List.getElem?_eq_getElem hlt), forW_eqc]
      exact ⟨hk _ _ _ (by omega) p, P (i + 1), fun ρ1 M1 p1 => ih (i + 1) (by omega) ρ1 M1 p1, hs i _ ρ M (List.getElem?_eq_getElem hlt) p⟩
  simpa using main ds.length 0 (by omega) ρ M h0
end
end HC
set_option maxHeartbeats 4000000
namespace HC
open PySem L2
inductive Tg where
  | nm (i : Nat)
  | tp (ts : List Tg)
mutual
def Tg.g (K : PySem.W.Frag) : Tg → TG
  | .nm i => gName i
  | .tp ts => fun v σ H Q => gTup K ts.length (Tg.gs K ts) v σ H Q ∨ gLst K ts.length (Tg.gs K ts) v σ H Q
def Tg.gs (K : PySem.W.Frag) : List Tg → TGs
  | [] => gNil
  | t :: ts => gCons (Tg.g K t) (Tg.gs K ts)
end
mutual
def Tg.put : Tg → Dv → Env' → Ms → Option Env'
  | .nm i, d, ρ, _ => some (ρ.set i (some d))
  | .tp ts, d, ρ, M => match itemsA d M with
    | some ds => Tg.puts ts ds ρ M
    | none => none
def Tg.puts : List Tg → List Dv → Env' → Ms → Option Env'
  | [], [], ρ, _ => some ρ
  | t :: ts, d :: ds, ρ, M => (Tg.put t d ρ M).bind fun ρ1 => Tg.puts ts ds ρ1 M
  | _, _, _, _ => none
end
mutual
def Tg.slots : Tg → List Nat
  | .nm i => [i]
  | .tp ts => Tg.slotss ts
def Tg.slotss : List Tg → List Nat
  | [] => []
  | t :: ts => Tg.slots t ++ Tg.slotss ts
end
theorem wipe_set_not : ∀ {vs : List Nat} {σ : L2.St} {i : Nat} {x : Option V}, i ∉ vs → wipe (σ.set i x) vs = (wipe σ vs).set i x
  | [], _, _, _, _ => rfl
  | v :: vs, σ, i, x, h => by
    have h1 : i ≠ v := fun e => h (by simp [e])
    have h2 : i ∉ vs := fun e => h (by simp [e])
    show (wipe (σ.set i x) vs).set v none = ((wipe σ vs).set v none).set i x
    rw [wipe_set_not h2, List.set_comm _ _ h1]
theorem wipe_set : ∀ {vs : List Nat} {σ : L2.St} {i : Nat} {x : Option V}, i ∈ vs → wipe (σ.set i x) vs = wipe σ vs
  | v :: vs, σ, i, x, h => by
    show (wipe (σ.set i x) vs).set v none = (wipe σ vs).set v none
    by_cases h2 : i ∈ vs
    · rw [wipe_set h2]
    · have e : i = v := by
        rcases List.mem_cons.mp h with e | e
        · exact e
        · exact absurd e h2
      subst e
      rw [wipe_set_not h2, List.set_set]
theorem wipe_wipe {vs : List Nat} {σ : L2.St} : ∀ {ws : List Nat}, (∀ i ∈ ws, i ∈ vs) → wipe (wipe σ ws) vs = wipe σ vs
  | [], _ => rfl
  | w :: ws, h => by
    show wipe ((wipe σ ws).set w none) vs = wipe σ vs
    rw [wipe_set (h w (by simp)), wipe_wipe fun i hi => h i (by simp [hi])]
theorem puts_len {M : Ms} : ∀ {ts : List Tg} {ds : List Dv} {ρ ρ' : Env'}, Tg.puts ts ds ρ M = some ρ' → ds.length = ts.length
  | [], [], _, _, _ => rfl
  | [], d :: ds, _, _, h => by simp [Tg.puts] at h
  | t :: ts, [], _, _, h => by simp [Tg.puts] at h
  | t :: ts, d :: ds, ρ, ρ', h => by
    simp only [Tg.puts] at h
    cases e : Tg.put t d ρ M with
    | none => rw [e] at h; cases h
    | some ρ1 =>
      rw [e] at h
      simp only [Option.bind_some] at h
      simp [puts_len h]
section
variable {K : PySem.W.Frag} {M : Ms} {H : Hp} {vs : List Nat}
mutual
theorem Tg.ok : ∀ {t : Tg} {d : Dv} {v : V} {ρ ρ' : Env'} {σ : L2.St} {Q : L2.St → Hp → Prop}, Rep K H d v → RepE K H ρ σ → View K M H → Tg.put t d ρ M = some ρ' → (∀ i ∈ Tg.slots t, i ∈ vs) → (∀ σ', RepE K H ρ' σ' → wipe σ' vs = wipe σ vs → Q σ' H) → Tg.g K t v σ H Q
  | .nm i, d, v, ρ, ρ', σ, Q, rd, hr, hv, h, hs, k => by
    simp only [Tg.put, Option.some.injEq] at h
    subst h
    simp only [Tg.g, gName]
    exact k _ (hr.set i rd) (wipe_set (hs i (by simp [Tg.slots])))
  | .tp ts, d, v, ρ, ρ', σ, Q, rd, hr, hv, h, hs, k => by
    simp only [Tg.put] at h
    cases e : itemsA d M with
    | none => rw [e] at h; cases h
    | some ds =>
      rw [e] at h
      obtain ⟨a, xs, e1, s, z⟩ := itemsA_ok rd hv e
      have main := Tg.oks z hr hv h (fun i hi => hs i (by simpa [Tg.slots] using hi)) k
      simp only [Tg.g]
      rcases s with s | s
      · exact .inl ⟨a, xs, e1, s, by rw [← z.length]; exact main.1, main.2⟩
      · exact .inr ⟨a, xs, e1, s, by rw [← z.length]; exact main.1, main.2⟩
theorem Tg.oks : ∀ {ts : List Tg} {ds : List Dv} {xs : List V} {ρ ρ' : Env'} {σ : L2.St} {Q : L2.St → Hp → Prop}, Reps K H ds xs → RepE K H ρ σ → View K M H → Tg.puts ts ds ρ M = some ρ' → (∀ i ∈ Tg.slotss ts, i ∈ vs) → (∀ σ', RepE K H ρ' σ' → wipe σ' vs = wipe σ vs → Q σ' H) →
    ds.length = ts.length ∧ Tg.gs K ts xs σ H Q
  | [], [], xs, ρ, ρ', σ, Q, rd, hr, hv, h, hs, k => by
    simp only [Tg.puts, Option.some.injEq] at h
    subst h
    refine ⟨rfl, ?_⟩
    simp only [Tg.gs, gNil]
    exact ⟨rd.nil_inv, k _ hr rfl⟩
  | [], d :: ds, _, _, _, _, _, _, _, _, h, _, _ => by simp [Tg.puts] at h
  | t :: ts, [], _, _, _, _, _, _, _, _, h, _, _ => by simp [Tg.puts] at h
  | t :: ts, d :: ds, xs, ρ, ρ', σ, Q, rd, hr, hv, h, hs, k => by
    simp only [Tg.puts] at h
    cases e : Tg.put t d ρ M with
    | none => rw [e] at h; cases h
    | some ρ1 =>
      rw [e] at h
      simp only [Option.bind_some] at h
      obtain ⟨v, r, e1, r1, r2⟩ := rd.cons_inv
      have hs1 : ∀ i ∈ Tg.slots t, i ∈ vs := fun i hi => hs i (by simp [Tg.slotss, hi])
      have hs2 : ∀ i ∈ Tg.slotss ts, i ∈ vs := fun i hi => hs i (by simp [Tg.slotss, hi])
      have hl : ds.length = ts.length := puts_len h
      refine ⟨by simp [hl], ?_⟩
      simp only [Tg.gs, gCons]
      exact ⟨v, r, e1, Tg.ok r1 hr hv e hs1 fun σ1 hr1 w1 => (Tg.oks r2 hr1 hv h hs2 fun σ2 hr2 w2 => k σ2 hr2 (w2.trans w1)).2⟩
end
end
def aYes : RT := fun _ M Q => Q true M
def ATs (X : Cx) (ifs : List Expr) (t : RT) : Prop := PTs X ifs (cT X.K t)
theorem pts_imp {X : Cx} {e : List Expr} {t t' : TT} (h : PTs X e t) (f : ∀ σ H Q, t' σ H Q → t σ H Q) : PTs X e t' := ⟨fun pins s σ H Q I q => h.run pins s σ H Q I (f _ _ _ q)⟩
theorem ats_nil {X : Cx} : ATs X [] aYes := pts_imp pts_nil fun σ H Q' ⟨ρ, M, Q, hr, hv, q, k⟩ => k _ _ _ (Tp.refl H) hv q
def lcT (tg : Tg) (own : List Nat) (tt : RT) (te : RE) (ρ : Env') (D : Addr) (d : Dv) (N : Ms → Prop) (M : Ms) : Prop :=
  ∃ ρ', Tg.put tg d (wipeA ρ own) M = some ρ' ∧ tt ρ' M fun b M2 => onIf b (te ρ' M2 fun y M3 => ∃ acc, M3 D = some (.lst acc) ∧ acc.length < sizeLine ∧ wkM N (mup M3 D (.lst (acc ++ [y])))) (wkM N M2)
def lcW0 (keep : Ms → Prop) (tg : Tg) (own : List Nat) (tt : RT) (te : RE) (ρ : Env') (D : Addr) (Q : Ms → Prop) : List Dv → Ms → Prop
  | [], M => keep M ∧ Q M
  | d :: ds, M => keep M ∧ ∃ N : Ms → Prop, (∀ M1, N M1 → lcW0 keep tg own tt te ρ D Q ds M1) ∧ lcT tg own tt te ρ D d N M
@[irreducible] def lcW (keep : Ms → Prop) (tg : Tg) (own : List Nat) (tt : RT) (te : RE) (ρ : Env') (D : Addr) (Q : Ms → Prop) (ds : List Dv) (M : Ms) : Prop := lcW0 keep tg own tt te ρ D Q ds M
theorem lcW_eqn {keep : Ms → Prop} {tg : Tg} {own : List Nat} {tt : RT} {te : RE} {ρ : Env'} {D : Addr} {Q : Ms → Prop} {M : Ms} : lcW keep tg own tt te ρ D Q [] M = (keep M ∧ Q M) := by unfold lcW; rfl
theorem lcW_eqc {keep : Ms → Prop} {tg : Tg} {own : List Nat} {tt : RT} {te : RE} {ρ : Env'} {D : Addr} {Q : Ms → Prop} {d : Dv} {ds : List Dv} {M : Ms} : lcW keep tg own tt te ρ D Q (d :: ds) M = (keep M ∧ ∃ N : Ms → Prop, (∀ M1, N M1 → lcW keep tg own tt te ρ D Q ds M1) ∧ lcT tg own tt te ρ D d N M) := by unfold lcW; rfl
def aLc (ai : RI) (tg : Tg) (own : List Nat) (tt : RT) (te : RE) : RE := fun ρ M Q => ai ρ M fun ds keep M1 => ∀ D, M1 D = none → lcW keep tg own tt te ρ D (Q (.ref D)) ds (mup M1 D (.lst []))
section
variable {X : Cx} {pos : Pos} {target iter elt : Expr} {ifs : List Expr} {ai : RI} {tt : RT} {te : RE}
theorem lc_imp {K : PySem.W.Frag} {tg : Tg} {own : List Nat} (hsl : ∀ i ∈ Tg.slots tg, i ∈ own) : ∀ σ H Q, cE K (aLc ai tg own tt te) σ H Q → tLc (cI K ai) (Tg.g K tg) (cT K tt) (cE K te) own σ H Q := fun σ H Q' h => by
  obtain ⟨ρ, M, Q, hr, hv, q, k⟩ := h
  refine ⟨ρ, M, _, hr, hv, q, fun J H1 ds keep M1 t1 v1 q1 iw D hD => ?_⟩
  have q2 := q1 D (v1.free hD)
  have tD : Tp K H1 (upd H1 D (.lst [])) := Tp.new hD
  refine ⟨fun i m H2 => m = ds.length - i ∧ i ≤ ds.length ∧ ∃ M2, Tp K H1 H2 ∧ View K M2 H2 ∧ lcW keep tg own tt te ρ D (Q (.ref D)) (ds.drop i) M2, ⟨ds.length, by simp, Nat.zero_le _, _, tD, v1.put (c := .lst []) (by rw [hD]; trivial) ⟨[], upd_same, Reps.nil⟩, by simpa using q2⟩, ?_⟩
  rintro i m H2 ⟨rfl, hi', M2, t2, v2, w2⟩
  by_cases hlt : i < ds.length
  · rw [drop_cons (List.getElem?_eq_getElem hlt), lcW_eqc] at w2
    obtain ⟨kp, Nx, hN, w2⟩ := w2
    refine .inr ⟨iw.go i H2 M2 hlt t2 v2 kp, fun H3 => ∃ M3, Tp K H1 H3 ∧ View K M3 H3 ∧ Nx M3, ?_, ?_⟩
    · rintro H3 ⟨M3, t3, v3, n3⟩
      exact ⟨ds.length - (i + 1), by omega, rfl, hlt, M3, t3, v3, hN _ n3⟩
    · intro x H3 hy
      obtain ⟨d, hd, t3, rd, v3, _⟩ := iw.yld i H2 M2 x H3 hlt t2 v2 kp hy
      have e : d = ds[i] := by rw [List.getElem?_eq_getElem hlt] at hd; exact (Option.some.inj hd).symm
      subst e
      obtain ⟨ρ', hput, w3⟩ := w2
      have tt3 : Tp K H1 H3 := t2.trans t3
      refine Tg.ok rd ((hr.mono (t1.trans tt3)).wipe own) v3 hput hsl fun σ3 hr3 hw => ⟨hw.trans (wipe_wipe fun _ z => z), ?_⟩
      refine seqT hr3 v3 w3 fun b H4 M4 t4 v4 w4 => ?_
      cases b with
      | false =>
        obtain ⟨M6, sm, w4⟩ := w4
        exact ⟨M6, tt3.trans t4, v4.sub sm, w4⟩
      | true =>
        refine seqE (hr3.mono t4) v4 w4 fun y H5 dy M5 t5 r5 v5 w5 => ?_
        obtain ⟨acc, ha, hz, M6, sm, n5⟩ := w5
        obtain ⟨vs, e5, z5⟩ := v5 D _ ha
        refine ⟨vs, e5, by rw [← z5.length]; exact hz, M6, ((tt3.trans t4).trans t5).trans (Tp.put (v5.soft ha)), View.sub (M' := mup M5 D (.lst (acc ++ [dy]))) (v5.put (c := .lst (acc ++ [dy])) (v5.soft ha) ⟨vs ++ [y], upd_same, ?_⟩) sm, n5⟩
        exact ((z5.append (Reps.cons r5 Reps.nil)).mono (Tp.put (v5.soft ha)))
  · have e : i = ds.length := by omega
    subst e
    rw [List.drop_length, lcW_eqn] at w2
    exact .inl ⟨iw.stop H2 M2 t2 v2 w2.1, k _ _ _ _ (t1.trans t2) (by simp only [Rep]) v2 w2.2⟩
theorem ae_lc {own : List (Str × Nat)} {tg : Tg} {scope : Scope} (hsl : ∀ i ∈ Tg.slots tg, i ∈ own.map (·.2)) (hc : X.calm = true) (hN : X.N.Nodup) (hi : AI X target iter ai) (ok : BlkOk X.N X.env.scope scope own)
    (hg : ∀ (s : Shared) (H : Hp) (C : Addr) (cl : List (Str × Addr)) (fp : List Addr), PG (X.blk s H scope (compEnvC scope cl C X.env) fp) target (Tg.g X.K tg)) (ht : ∀ (s : Shared) (H : Hp) (C : Addr) (cl : List (Str × Addr)) (fp : List Addr), ATs (X.blk s H scope (compEnvC scope cl C X.env) fp) ifs tt)
    (he : ∀ (s : Shared) (H : Hp) (C : Addr) (cl : List (Str × Addr)) (fp : List Addr), AE (X.blk s H scope (compEnvC scope cl C X.env) fp) elt te) (hs : ∀ x, foldedSetIterable iter X.env x = pure x := by intro _; rfl) :
    AE X (.ListComp elt [⟨target, iter, ifs, 0⟩] scope pos) (aLc ai tg (own.map (·.2)) tt te) := pe_imp (pe_lc (tt := cT X.K tt) (te := cE X.K te) hc hN hi ok hg ht he hs) (lc_imp hsl)
theorem as_setLc (i : Nat) {y : Str} {py spos : Pos} {own : List (Str × Nat)} {tg : Tg} {scope : Scope} (hsl : ∀ i ∈ Tg.slots tg, i ∈ own.map (·.2)) (hc : X.calm = true) (hN : X.N.Nodup) (hy : X.N[i]? = some y) (hyl : X.env.scope.names.lookup y = some .local)
    (hsw : swapsWith (.ListComp elt [⟨target, iter, ifs, 0⟩] scope pos) (some (.Name y py)) spos.line X.env = pure true) (hi : AI X target iter ai) (ok : BlkOk X.N X.env.scope scope own)
    (hg : ∀ (s : Shared) (H : Hp) (C : Addr) (cl : List (Str × Addr)) (fp : List Addr), PG (X.blk s H scope (compEnvC scope cl C X.env) fp) target (Tg.g X.K tg)) (ht : ∀ (s : Shared) (H : Hp) (C : Addr) (cl : List (Str × Addr)) (fp : List Addr), ATs (X.blk s H scope (compEnvC scope cl C X.env) fp) ifs tt)
    (he : ∀ (s : Shared) (H : Hp) (C : Addr) (cl : List (Str × Addr)) (fp : List Addr), AE (X.blk s H scope (compEnvC scope cl C X.env) fp) elt te) (hs : ∀ x, foldedSetIterable iter X.env x = pure x := by intro _; rfl) :
    AS X (.Assign [.Name y py] (.ListComp elt [⟨target, iter, ifs, 0⟩] scope pos) spos) (aAsg (aLc ai tg (own.map (·.2)) tt te) (agName i)) := ps_imp (ps_setLc (tt := cT X.K tt) (te := cE X.K te) hc hN hy hyl hsw hi ok hg ht he hs) (asg_name_imp (lc_imp hsl))
end
end HC
set_option maxHeartbeats 4000000
namespace HC
open PySem L2 PyProof.Rows
section
variable {X : Cx} {a b c e : Expr} {ta tb tc te : RE} {pos : Pos} {K : PySem.W.Frag}
def isNon : Dv → Bool
  | .non => true
  | _ => false
theorem isNon_ok {H : Hp} {d : Dv} {v : V} (r : Rep K H d v) : decide (v = .non) = isNon d := by
  cases d with
  | non => rw [rep_non_inv r]; rfl
  | bl _ => rw [rep_bl_inv r]; rfl
  | int _ => rw [rep_int_inv r]; rfl
  | str _ => rw [rep_str_inv r]; rfl
  | ref _ => rw [rep_ref_inv r]; rfl
  | ty _ => rw [rep_ty_inv r]; rfl
  | tup _ => obtain ⟨a, vs, e, _⟩ := rep_tup_inv r; rw [e]; rfl
  | rol _ => obtain ⟨a, vs, e, _⟩ := rep_rol_inv r; rw [e]; rfl
  | tuc _ => obtain ⟨a, vs, e, _⟩ := rep_tuc_inv r; rw [e]; rfl
  | exc _ _ => obtain ⟨a, e, _⟩ := rep_exc_inv r; rw [e]; rfl
def aIsB (x y : Dv) (Q : Bool → Prop) : Prop := match y with
  | .non => Q (isNon x)
  | .bl b => match x with | .bl a => Q (a == b) | _ => False
  | _ => False
def aIs : AR2 := fun x y M Q => aIsB x y fun b => Q (.bl b) M
def aIsNot : AR2 := fun x y M Q => aIsB x y fun b => Q (.bl (!b)) M
def rIsH : R2 := fun x y H Q => (y = .non ∧ Q (.bl (decide (x = .non))) H) ∨ (∃ a b, x = .bl a ∧ y = .bl b ∧ Q (.bl (decide (a = b))) H)
def rIsNotH : R2 := fun x y H Q => (y = .non ∧ Q (.bl (!decide (x = .non))) H) ∨ (∃ a b, x = .bl a ∧ y = .bl b ∧ Q (.bl (!decide (a = b))) H)
theorem ab_is : Ab2 K rIsH aIs := by
  intro H M x y dx dy Q Q' rx ry hv q k
  cases dy <;> first | exact q.elim | skip
  case non => exact .inl ⟨rep_non_inv ry, by rw [isNon_ok rx]; exact k _ _ _ _ (Tp.refl H) rep_bl hv q⟩
  case bl b =>
    cases dx <;> first | exact q.elim | skip
    case bl a =>
      refine .inr ⟨a, b, rep_bl_inv rx, rep_bl_inv ry, ?_⟩
      have e : decide (a = b) = (a == b) := by cases a <;> cases b <;> rfl
      rw [e]
      exact k _ _ _ _ (Tp.refl H) rep_bl hv q
theorem ab_isnot : Ab2 K rIsNotH aIsNot := by
  intro H M x y dx dy Q Q' rx ry hv q k
  cases dy <;> first | exact q.elim | skip
  case non => exact .inl ⟨rep_non_inv ry, by rw [isNon_ok rx]; exact k _ _ _ _ (Tp.refl H) rep_bl hv q⟩
  case bl b =>
    cases dx <;> first | exact q.elim | skip
    case bl a =>
      refine .inr ⟨a, b, rep_bl_inv rx, rep_bl_inv ry, ?_⟩
      have e : decide (a = b) = (a == b) := by cases a <;> cases b <;> rfl
      rw [e]
      exact k _ _ _ _ (Tp.refl H) rep_bl hv q
theorem op_isH : OpR X (compareOp .Is) rIsH := opr_or op_isN op_is_bl
theorem op_isnotH : OpR X (compareOp .IsNot) rIsNotH := opr_or op_notN op_isnot_bl
theorem ae_is (ha : AE X a ta) (hb : AE X b tb) : AE X (.Compare a [.Is] [b] pos) (aOp aIs ta tb) := ae_cmp op_isH ab_is ha hb (nomark _)
theorem ae_isnot (ha : AE X a ta) (hb : AE X b tb) : AE X (.Compare a [.IsNot] [b] pos) (aOp aIsNot ta tb) := ae_cmp op_isnotH ab_isnot ha hb (nomark _)
theorem at_is (ha : AE X a ta) (hb : AE X b tb) : AT X (.Compare a [.Is] [b] pos) (aB (aOp aIs ta tb)) := at_cmp op_isH ab_is ha hb (nomark _)
def aChain (r r' : AR2) (ta tb tc : RE) : RE := fun ρ M Q => ta ρ M fun x M1 => tb ρ M1 fun y M2 => r x y M2 fun z M3 => onB z fun k => onIf k (tc ρ M3 fun w M4 => r' y w M4 Q) (Q (.bl false) M3)
theorem chain_imp {r r' : R2} {ar ar' : AR2} (h : Ab2 K r ar) (h' : Ab2 K r' ar') : ∀ σ H Q, cE K (aChain ar ar' ta tb tc) σ H Q → tChain r r' (cE K ta) (cE K tb) (cE K tc) σ H Q := fun σ H Q' ⟨ρ, M, Q, hr, hv, q, k⟩ =>
  seqE hr hv q fun v H1 d M1 t1 r1 v1 q1 => seqE (hr.mono t1) v1 q1 fun v2 H2 d2 M2 t2 r2 v2' q2 => h H2 M2 v v2 d d2 _ _ (r1.mono t2) r2 v2' q2 fun z H3 dz M3 t3 r3 v3 q3 => by
    obtain ⟨kk, e, q3⟩ := onB_ex q3
    subst e
    refine ⟨kk, rep_bl_inv r3, ?_⟩
    have t23 := t1.trans (t2.trans t3)
    cases kk with
    | false => exact k _ _ _ _ t23 rep_bl v3 q3
    | true => exact seqE (hr.mono t23) v3 q3 fun w H4 dw M4 t4 r4 v4 q4 => h' H4 M4 _ _ _ _ Q Q' (r2.mono (t3.trans t4)) r4 v4 q4 (k.up (t23.trans t4))
def keyD : Dv → Option Key
  | .int i => some (.inl i)
  | .str x => some (.inr x)
  | _ => none
def keysD : List Dv → Option (List Key)
  | [] => some []
  | d :: ds => (keyD d).bind fun k => (keysD ds).map fun r => k :: r
def getK {κ : Type} [DecidableEq κ] (kvs : List (κ × Dv)) (k : κ) : Option Dv := (kvs.find? fun kv => decide (kv.1 = k)).map (·.2)
theorem keyD_ok {H : Hp} {d : Dv} {v : V} {k : Key} (r : Rep K H d v) (h : keyD d = some k) : v = kV k := by
  cases d <;> first | cases h | skip
  case int i => exact rep_int_inv r
  case str x => exact rep_str_inv r
theorem keysD_ok {H : Hp} : ∀ {ds : List Dv} {vs : List V} {ks : List Key}, Reps K H ds vs → keysD ds = some ks → vs = ks.map kV
  | [], _, _, r, h => by cases h; rw [r.nil_inv]; rfl
  | d :: ds, _, ks, r, h => by
    obtain ⟨v, w, rfl, r1, r2⟩ := r.cons_inv
    simp only [keysD] at h
    cases e : keyD d with
    | none => rw [e] at h; cases h
    | some k =>
      rw [e] at h
      cases e2 : keysD ds with
      | none => rw [e2] at h; cases h
      | some r' =>
        rw [e2] at h
        simp only [Option.bind_some, Option.map_some, Option.some.injEq] at h
        subst h
        rw [keyD_ok r1 e, keysD_ok r2 e2]; rfl
theorem getK_ok {κ : Type} [DecidableEq κ] {H : Hp} : ∀ {kds : List (κ × Dv)} {kvs : List (κ × V)} {k : κ}, Paired (fun (p : κ × Dv) (q : κ × V) => p.1 = q.1 ∧ Rep K H p.2 q.2) kds kvs →
    (getK kds k = none ∧ valV kvs k = none) ∨ ∃ d v, getK kds k = some d ∧ valV kvs k = some v ∧ Rep K H d v
  | _, _, _, .nil => .inl ⟨rfl, rfl⟩
  | (k1, d) :: kds, (k2, v) :: kvs, k, .cons ⟨e, r⟩ t => by
    have e' : k1 = k2 := e
    subst e'
    by_cases h : k1 = k
    · refine .inr ⟨d, v, ?_, ?_, r⟩
      · simp [getK, h]
      · simp [valV, h]
    · rcases getK_ok (k := k) t with ⟨h1, h2⟩ | ⟨d', v', h1, h2, h3⟩
      · refine .inl ⟨?_, ?_⟩
        · simp only [getK, List.find?_cons, h, decide_false]; exact h1
        · simp only [valV, List.find?_cons, h, decide_false]; exact h2
      · refine .inr ⟨d', v', ?_, ?_, h3⟩
        · simp only [getK, List.find?_cons, h, decide_false]; exact h1
        · simp only [valV, List.find?_cons, h, decide_false]; exact h2
theorem ix_dict (hu : X.A.units + 1 < cLine) : IxR X (fun x y H Q => ∃ a v, x = .ref a ∧ DGet H a y (some v) ∧ Q v H) := by
  intro value slice pins s σ H x y v u Q I rx ry h hs
  obtain ⟨a, w, rfl, g, q⟩ := h
  obtain rfl : v = Value.ref a := rx
  have hT := dict_typeIs I g
  unfold subscriptTail
  refine wpAny_bind ?_
  rw [getitemInPython_of_ne hT.not_modules]
  refine wpAny_bind (wpAny_specialOf hT PySem.F.slot_dict_getitem.lookup ?_)
  have fin : wpAny (model X.prog X.w) X.A (subscripted slice false (.ref a) u) (fun r s₃ => wpAny (model X.prog X.w) X.A (letTemporaryGo value (.ref a) r >>= fun _ => pure r) (EP X pins σ Q) X.xe s₃) X.xe s := by
    rw [hs]
    exact wpAny_operating (wpAny_mono (d_getItem hu I g ry fun w' s3 I3 rw' => (⟨w, H, I3, rw', q⟩ : EP X pins σ Q w' s3)) (fun r s₃ h₃ => wpAny_bind (wpAny_letTemporaryGo (wpAny_pure h₃))) fun _ _ x => x)
  first
    | exact wpAny_pure (wpAny_bind fin)
    | exact wpAny_bind (wpAny_pure (wpAny_bind fin))
    | exact wpAny_bind fin
def rIxH (K : PySem.W.Frag) : R2 := fun x y H Q => rIx K x y H Q ∨ (∃ a v, x = .ref a ∧ DGet H a y (some v) ∧ Q v H)
theorem ix_H (hu : X.A.units + 1 < cLine) : IxR X (rIxH X.K) := IxR.or ix_seq (ix_dict hu)
def aIx : AR2 := fun x y M Q => match x with
  | .tup xs => onI y fun i => onS (atI xs i) fun d => Q d M
  | .rol xs => onI y fun i => onS (atI xs i) fun d => Q d M
  | .str z => onI y fun i => z.length ≤ sizeLine ∧ onS (atI z.cps.toList i) fun c => Q (.str ⟨#[c]⟩) M
  | .ref a => match M a with
    | some (.lst xs) => onI y fun i => onS (atI xs i) fun d => Q d M
    | some (.dic kvs) => onS (keyD y) fun k => onS (getK kvs k) fun d => Q d M
    | _ => False
  | _ => False
theorem atI_rep {H : Hp} {ds : List Dv} {vs : List V} {i : Int} {d : Dv} (r : Reps K H ds vs) (h : atI ds i = some d) : ∃ v, atI vs i = some v ∧ Rep K H d v := by
  unfold atI at h ⊢
  rw [r.length] at h
  cases e : ixN vs.length i with
  | none => rw [e] at h; cases h
  | some j =>
    rw [e] at h
    simp only [Option.bind_some] at h ⊢
    exact r.get h
theorem ab_ix : Ab2 K (rIxH K) aIx := by
  intro H M x y dx dy Q Q' rx ry hv q k
  cases dx <;> first | exact q.elim | skip
  case tup xs =>
    obtain ⟨i, e, q4⟩ := onI_ex q
    obtain ⟨d, h, q5⟩ := onS_ex q4
    subst e
    obtain ⟨a, vs, e1, s, r⟩ := rep_tup_inv rx
    obtain ⟨v, h1, h2⟩ := atI_rep r h
    exact .inl (.inr (.inl ⟨a, vs, i, v, e1, rep_int_inv ry, s, h1, k _ _ _ _ (Tp.refl H) h2 hv q5⟩))
  case rol xs =>
    obtain ⟨i, e, q4⟩ := onI_ex q
    obtain ⟨d, h, q5⟩ := onS_ex q4
    subst e
    obtain ⟨a, vs, e1, s, r⟩ := rep_rol_inv rx
    obtain ⟨v, h1, h2⟩ := atI_rep r h
    exact .inl (.inl ⟨a, vs, i, v, e1, rep_int_inv ry, s.l, h1, k _ _ _ _ (Tp.refl H) h2 hv q5⟩)
  case str z =>
    obtain ⟨i, e, hl, q4⟩ := onI_ex q
    obtain ⟨c, h, q5⟩ := onS_ex q4
    subst e
    exact .inl (.inr (.inr ⟨z, i, c, rep_str_inv rx, rep_int_inv ry, hl, h, k _ _ _ _ (Tp.refl H) rep_str hv q5⟩))
  case ref a =>
    simp only [aIx] at q
    split at q
    · next xs e =>
      obtain ⟨i, e1, q4⟩ := onI_ex q
      obtain ⟨d, h, q5⟩ := onS_ex q4
      subst e1
      obtain ⟨vs, e2, r⟩ := view_lst hv e
      obtain ⟨v, h1, h2⟩ := atI_rep r h
      exact .inl (.inl ⟨a, vs, i, v, rep_ref_inv rx, rep_int_inv ry, .inl (.inl e2), h1, k _ _ _ _ (Tp.refl H) h2 hv q5⟩)
    · next kvs e =>
      obtain ⟨kk, e1, q⟩ := onS_ex q
      obtain ⟨d, h, q⟩ := onS_ex q
      obtain ⟨vs, e2, r⟩ := (show ∃ kvs', H a = some (.dK kvs') ∧ Paired (fun (p : Key × Dv) (q : Key × V) => p.1 = q.1 ∧ Rep K H p.2 q.2) kvs kvs' from hv a _ e)
      rcases getK_ok (k := kk) r with ⟨h1, _⟩ | ⟨d', v, h1, h2, h3⟩
      · rw [h1] at h; cases h
      · rw [h1] at h; cases h
        exact .inr ⟨a, v, rep_ref_inv rx, .inl ⟨vs, kk, .inl e2, keyD_ok ry e1, h2.symm⟩, k _ _ _ _ (Tp.refl H) h3 hv q⟩
    · exact q.elim
theorem ae_ix (hu : X.A.units + 1 < cLine) (ha : AE X a ta) (hb : AE X b tb) (hs : PlainIx b := by exact fun _ _ => rfl) : AE X (.Subscript a b pos) (aOp aIx ta tb) := pe_imp (pe_ix (ix_H hu) ha hb hs) (aop_imp ab_ix)
abbrev RO := Env' → Ms → (Option Int → Ms → Prop) → Prop
def cO (K : PySem.W.Frag) (t : RO) : TO := fun σ H Q' => ∃ ρ M Q, RepE K H ρ σ ∧ View K M H ∧ t ρ M Q ∧ ∀ o H' M', Tp K H H' → View K M' H' → Q o M' → Q' o H'
def AO (X : Cx) (e : Option Expr) (t : RO) : Prop := PO X e (cO X.K t)
theorem po_imp {e : Option Expr} {t t' : TO} (h : PO X e t) (f : ∀ σ H Q, t' σ H Q → t σ H Q) : PO X e t' := ⟨fun pins s σ H Q I q => h.run pins s σ H Q I (f _ _ _ q)⟩
def aoN : RO := fun _ M Q => Q none M
def aoS (t : RE) : RO := fun ρ M Q => t ρ M fun d M1 => onI d fun i => Q (some i) M1
theorem ao_none : AO X none aoN := po_imp po_none fun σ H Q' ⟨ρ, M, Q, hr, hv, q, k⟩ => k _ _ _ (Tp.refl H) hv q
theorem ao_some (h : AE X e te) : AO X (some e) (aoS te) := po_imp (po_some h) fun σ H Q' ⟨ρ, M, Q, hr, hv, q, k⟩ => seqE hr hv q fun v H1 d M1 t1 r1 v1 q1 => by
  obtain ⟨i, e, q1⟩ := onI_ex q1
  subst e
  exact ⟨i, rep_int_inv r1, k _ _ _ t1 v1 q1⟩
def cutA (xs : List Dv) (lo hi : Option Int) : List Dv := (xs.drop (HT.sIx xs.length 0 lo)).take (HT.sIx xs.length xs.length hi - HT.sIx xs.length 0 lo)
def lstC : Option Cell → Option (List Dv)
  | some (.lst xs) => some xs
  | _ => none
theorem lstC_eq {o : Option Cell} {xs : List Dv} (h : lstC o = some xs) : o = some (.lst xs) := by
  cases o with
  | none => cases h
  | some c => cases c <;> first | (cases h; done) | (cases h; rfl)
def aSl (te : RE) (tl th : RO) : RE := fun ρ M Q => te ρ M fun x M1 => tl ρ M1 fun lo M2 => th ρ M2 fun hi M3 => match x with
  | .tup xs => Q (.tup (cutA xs lo hi)) M3
  | .str z => z.length ≤ sizeLine ∧ Q (.str (cutS z lo hi)) M3
  | .rol xs => ∀ p, M3 p = none → Q (.ref p) (mup M3 p (.lst (cutA xs lo hi)))
  | .ref a => onS (lstC (M3 a)) fun xs => ∀ p, M3 p = none → Q (.ref p) (mup M3 p (.lst (cutA xs lo hi)))
  | _ => False
theorem cutA_rep {H : Hp} {ds : List Dv} {vs : List V} (r : Reps K H ds vs) (lo hi : Option Int) : Reps K H (cutA ds lo hi) (cutV vs lo hi) := by
  unfold cutA cutV
  rw [r.length]
  exact (r.drop _).take _
theorem ae_slice {tl th : RO} {lo hi : Option Expr} {p2 : Pos} (he : AE X e te) (hl : AO X lo tl) (hh : AO X hi th) : AE X (.Subscript e (.Slice lo hi none p2) pos) (aSl te tl th) :=
  pe_imp (pe_slice (SlR.or sl_list (SlR.or sl_tupA sl_str)) he hl hh) fun σ H Q' h => by
    obtain ⟨ρ, M, Q, hr, hv, q, k⟩ := h
    refine seqE hr hv q fun v H1 d M1 t1 r1 v1 q1 => ?_
    refine ⟨ρ, M1, _, hr.mono t1, v1, q1, fun lo H2 M2 t2 v2 q2 => ⟨ρ, M2, _, hr.mono (t1.trans t2), v2, q2, fun hi H3 M3 t3 v3 q3 => ?_⟩⟩
    have rd := r1.mono (t2.trans t3)
    have k3 := k.up (t1.trans (t2.trans t3))
    cases d <;> first | exact q3.elim | skip
    case tup xs =>
      obtain ⟨a, vs, e, s, r⟩ := rep_tup_inv rd
      refine .inr (.inl ⟨a, vs, e, s, fun hw => k3 _ _ _ _ (Tp.refl H3) (rep_tup s ?_) v3 q3, fun _ => end_tup (cutA_rep r lo hi) v3 q3 k3⟩)
      have l := r.length
      unfold cutA
      rw [l, hw.1, hw.2]
      simpa [← l] using r
    case str z => exact .inr (.inr ⟨z, rep_str_inv rd, q3.1, k3 _ _ _ _ (Tp.refl H3) rep_str v3 q3.2⟩)
    case rol xs =>
      obtain ⟨a, vs, e, s, r⟩ := rep_rol_inv rd
      exact .inl ⟨a, vs, e, s.l, end_lst (cutA_rep r lo hi) v3 q3 k3⟩
    case ref a =>
      obtain ⟨xs, h1, q4⟩ := onS_ex q3
      replace h1 := lstC_eq h1
      obtain ⟨vs, e, r⟩ := view_lst v3 h1
      exact .inl ⟨a, vs, rep_ref_inv rd, .inl (.inl e), end_lst (cutA_rep r lo hi) v3 q4 k3⟩
abbrev ARC := List Dv → Ms → DK → Prop
def AbC (K : PySem.W.Frag) (r : List V → Hp → VK → Prop) (ar : ARC) : Prop := ∀ H M vs ds Q Q', Reps K H ds vs → View K M H → ar ds M Q → LkV K H Q Q' → r vs H Q'
def aFn (ar : ARC) (t : RA) : RE := fun ρ M Q => t ρ M fun ds M1 => ar ds M1 Q
variable {x : Str} {bid T : String} {r : List V → Hp → VK → Prop} {ar : ARC} {p : Pos} {es : List Expr} {t : RA}
theorem afn_imp (h : AbC K r ar) : ∀ σ H Q, cE K (aFn ar t) σ H Q → tCB r (cA K t) σ H Q := fun σ H Q' ⟨ρ, M, Q, hr, hv, q, k⟩ =>
  seqA hr hv q fun vs H1 ds M1 t1 r1 v1 q1 => h H1 M1 vs ds Q Q' r1 v1 q1 (k.up t1)
theorem ae_callB (hc : CallR X (.builtin bid) r) (h : AbC X.K r ar) (ha : AA X (e :: es) t) (hm : X.mg x = none) (hv : bootBuiltins x = some (.builtin bid)) (hg : Gl X x := by rfl) (hn : x ≠ "__name__" := by decide) (hdb : (x == ("__debug__" : Str)) = false := by decide)
    (he : starEach (e :: es) X.env = (false, eval e X.env) :: starEach es X.env := by rfl) (hpl : (backTo pos (starEach es X.env)).any (·.1) = false := by rfl) : AE X (.Call (.Name x p) (e :: es) [] pos) (aFn ar t) := pe_imp (pe_callB hc hg hm hv ha hn hdb he hpl) (afn_imp h)
theorem ae_callTy (hc : CallR X (.type T) r) (h : AbC X.K r ar) (ha : AA X (e :: es) t) (hm : X.mg x = none) (hv : bootBuiltins x = some (.type T)) (hg : Gl X x := by rfl) (hn : x ≠ "__name__" := by decide) (hdb : (x == ("__debug__" : Str)) = false := by decide)
    (he : starEach (e :: es) X.env = (false, eval e X.env) :: starEach es X.env := by rfl) (hpl : (backTo pos (starEach es X.env)).any (·.1) = false := by rfl) : AE X (.Call (.Name x p) (e :: es) [] pos) (aFn ar t) := pe_imp (pe_callTy hc hg hm hv ha hn hdb he hpl) (afn_imp h)
theorem reps1 {H : Hp} {d : Dv} {vs : List V} (h : Reps K H [d] vs) : ∃ v, vs = [v] ∧ Rep K H d v := by
  obtain ⟨v, r, e, h1, h2⟩ := h.cons_inv
  rw [h2.nil_inv] at e
  exact ⟨v, e, h1⟩
theorem reps2 {H : Hp} {d d' : Dv} {vs : List V} (h : Reps K H [d, d'] vs) : ∃ v v', vs = [v, v'] ∧ Rep K H d v ∧ Rep K H d' v' := by
  obtain ⟨v, r, e, h1, h2⟩ := h.cons_inv
  obtain ⟨v', e', h3⟩ := reps1 h2
  rw [e'] at e
  exact ⟨v, v', e, h1, h3⟩
def lenA (d : Dv) (M : Ms) : Option Nat := match d with
  | .str z => some z.length
  | d => (itemsA d M).map List.length
def acLen : ARC := fun ds M Q => match ds with
  | [d] => onS (lenA d M) fun n => (match d with | .str z => z.length ≤ sizeLine | _ => True) ∧ Q (.int (n : Int)) M
  | _ => False
theorem abc_len : AbC K (fun xs H Q => ∃ x n, xs = [x] ∧ LenV K x H n ∧ Q (.int n) H) acLen := by
  intro H M vs ds Q Q' r hv q k
  match ds, q with
  | [d], q =>
    obtain ⟨n, h, hz, q⟩ := onS_ex q
    obtain ⟨v, e, rd⟩ := reps1 r
    refine ⟨v, n, e, ?_, k _ _ _ _ (Tp.refl H) rep_int hv q⟩
    cases d with
    | str z =>
      rw [rep_str_inv rd]
      cases h
      exact ⟨hz, rfl⟩
    | tup xs =>
      obtain ⟨a, ws, e1, s, z⟩ := rep_tup_inv rd
      rw [e1]
      cases h
      exact .inr ⟨ws, s, z.length⟩
    | exc _ _ => cases h
    | tuc xs =>
      obtain ⟨a, ws, e1, s, z⟩ := rep_tuc_inv rd
      rw [e1]
      cases h
      exact .inr ⟨ws, s.t, z.length⟩
    | rol xs =>
      obtain ⟨a, ws, e1, s, z⟩ := rep_rol_inv rd
      rw [e1]
      cases h
      exact .inl ⟨ws, s.l, z.length⟩
    | ref a =>
      rw [rep_ref_inv rd]
      simp only [lenA, itemsA] at h
      cases e1 : M a with
      | none => rw [e1] at h; cases h
      | some c =>
        rw [e1] at h
        cases c with
        | lst xs =>
          obtain ⟨ws, e2, z⟩ := view_lst hv e1
          cases h
          exact .inl ⟨ws, .inl (.inl e2), z.length⟩
        | dic _ => cases h
        | dit _ => cases h
        | fdc _ => cases h
        | obj _ _ => cases h
        | tab _ => cases h
        | cod _ => cases h
    | non => cases h
    | bl _ => cases h
    | int _ => cases h
    | ty _ => cases h
def acInt : ARC := fun ds M Q => match ds with | [.int i] => Q (.int i) M | [.bl b] => Q (.int (if b then 1 else 0)) M | _ => False
theorem abc_int : AbC K (fun xs H Q => (∃ i, xs = [.int i] ∧ Q (.int i) H) ∨ ∃ k, xs = [.bl k] ∧ Q (.int (if k then 1 else 0)) H) acInt := by
  intro H M vs ds Q Q' r hv q k
  match ds, q with
  | [.int i], q =>
    obtain ⟨v, e, rd⟩ := reps1 r
    exact .inl ⟨i, by rw [e, rep_int_inv rd], k _ _ _ _ (Tp.refl H) rep_int hv q⟩
  | [.bl i], q =>
    obtain ⟨v, e, rd⟩ := reps1 r
    exact .inr ⟨i, by rw [e, rep_bl_inv rd], k _ _ _ _ (Tp.refl H) rep_int hv q⟩
def lstA (d : Dv) (M : Ms) : Option (List Dv) := match d with
  | .rol xs => some xs
  | .ref a => match M a with | some (.lst xs) => some xs | _ => none
  | _ => none
theorem lstA_ok {M : Ms} {H : Hp} {d : Dv} {v : V} {ds : List Dv} (r : Rep K H d v) (hv : View K M H) (h : lstA d M = some ds) : ∃ a vs, v = .ref a ∧ SqL K H a vs ∧ Reps K H ds vs := by
  cases d with
  | rol es =>
    cases h
    obtain ⟨a, vs, e, s, z⟩ := rep_rol_inv r
    exact ⟨a, vs, e, s.l, z⟩
  | ref a =>
    simp only [lstA] at h
    cases q : M a with
    | none => rw [q] at h; cases h
    | some c =>
      rw [q] at h
      cases c with
      | dic _ => cases h
      | dit _ => cases h
      | fdc _ => cases h
      | obj _ _ => cases h
      | tab _ => cases h
      | cod _ => cases h
      | lst es =>
        cases h
        obtain ⟨vs, h1, h2⟩ := view_lst hv q
        exact ⟨a, vs, rep_ref_inv r, .inl (.inl h1), h2⟩
  | tup _ => cases h
  | tuc _ => cases h
  | exc _ _ => cases h
  | non => cases h
  | bl _ => cases h
  | int _ => cases h
  | str _ => cases h
  | ty _ => cases h
def acAll : ARC := fun ds M Q => match ds with | [d] => ∃ ns : List Bool, lstA d M = some (ns.map Dv.bl) ∧ Q (.bl (ns.all id)) M | _ => False
theorem abc_all : AbC K (rAll K) acAll := by
  intro H M vs ds Q Q' r hv q k
  match ds, q with
  | [d], ⟨ns, h, q⟩ =>
    obtain ⟨v, e, rd⟩ := reps1 r
    obtain ⟨a, ws, e1, s, z⟩ := lstA_ok rd hv h
    rw [z.bools] at s
    exact ⟨a, ns, by rw [e, e1], s, k _ _ _ _ (Tp.refl H) rep_bl hv q⟩
def acMin2 : ARC := fun ds M Q => match ds with | [.int i, .int j] => Q (.int (if j < i then j else i)) M | _ => False
theorem abc_min2 : AbC K (fun xs H Q => ∃ i j, xs = [.int i, .int j] ∧ Q (.int (if j < i then j else i)) H) acMin2 := by
  intro H M vs ds Q Q' r hv q k
  match ds, q with
  | [.int i, .int j], q =>
    obtain ⟨v, w, e, r1, r2⟩ := reps2 r
    exact ⟨i, j, by rw [e, rep_int_inv r1, rep_int_inv r2], k _ _ _ _ (Tp.refl H) rep_int hv q⟩
def acTup : ARC := fun ds M Q => match ds with | [d] => onS (itemsA d M) fun xs => Q (.tup xs) M | _ => False
def acLst : ARC := fun ds M Q => match ds with | [d] => onS (itemsA d M) fun xs => ∀ p, M p = none → Q (.ref p) (mup M p (.lst xs)) | _ => False
theorem abc_tup : AbC K (fun xs H Q => ∃ p ys, xs = [.ref p] ∧ ((SqL K H p ys ∧ ∀ l, H l = none → Q (.ref l) (upd H l (.tup ys))) ∨ (SqT K H p ys ∧ Q (.ref p) H))) acTup := by
  intro H M vs ds Q Q' r hv q k
  match ds, q with
  | [d], q =>
    obtain ⟨xs, h, q⟩ := onS_ex q
    obtain ⟨v, e, rd⟩ := reps1 r
    obtain ⟨a, ws, e1, s, z⟩ := itemsA_ok rd hv h
    subst e1
    rcases s with s | s
    · exact ⟨a, ws, e, .inr ⟨s, k _ _ _ _ (Tp.refl H) (rep_tup s z) hv q⟩⟩
    · exact ⟨a, ws, e, .inl ⟨s, end_tup z hv q k⟩⟩
theorem abc_lst : AbC K (fun xs H Q => ∃ p ys, xs = [.ref p] ∧ (SqL K H p ys ∨ SqT K H p ys) ∧ ∀ l, H l = none → Q (.ref l) (upd H l (.lst ys))) acLst := by
  intro H M vs ds Q Q' r hv q k
  match ds, q with
  | [d], q =>
    obtain ⟨xs, h, q⟩ := onS_ex q
    obtain ⟨v, e, rd⟩ := reps1 r
    obtain ⟨a, ws, e1, s, z⟩ := itemsA_ok rd hv h
    subst e1
    exact ⟨a, ws, e, s.symm, end_lst z hv q k⟩
end
end HC
set_option maxHeartbeats 4000000
namespace HC
open PySem L2 PyProof.Rows
section
variable {X : Cx} {a b c e o : Expr} {ta tb tc te to : RE} {pos apos cpos p : Pos} {K : PySem.W.Frag} {es : List Expr} {t : RA}
def tyN : Dv → Ms → Option String
  | .non, _ => some "NoneType"
  | .bl _, _ => some "bool"
  | .int _, _ => some "int"
  | .str _, _ => some "str"
  | .tup _, _ => some "tuple"
  | .rol _, _ => some "list"
  | .tuc _, _ => some "tuple"
  | .ref a, M => match M a with | some (.lst _) => some "list" | some (.dic _) => some "dict" | some (.dit _) => some "dict" | _ => none
  | .ty _, _ => none
  | .exc _ _, _ => none
theorem tyN_ok {M : Ms} {H : Hp} {d : Dv} {v : V} {T : String} (r : Rep K H d v) (hv : View K M H) (h : tyN d M = some T) : TyX K H v (.type T) := by
  cases d with
  | non => cases h; rw [rep_non_inv r]; exact .base .non
  | bl b => cases h; rw [rep_bl_inv r]; exact .base (.bl b)
  | int b => cases h; rw [rep_int_inv r]; exact .base (.int b)
  | str b => cases h; rw [rep_str_inv r]; exact .base (.str b)
  | ty b => cases h
  | tup ds =>
    cases h
    obtain ⟨a, vs, e, s, _⟩ := rep_tup_inv r
    rw [e]
    rcases s with (s | ⟨o, s⟩) | ⟨o, its, n, h1, h2, _⟩
    · exact .base (.tup s)
    · exact .fTuple s
    · exact .kTuple h1 h2
  | rol ds =>
    cases h
    obtain ⟨a, vs, e, s, _⟩ := rep_rol_inv r
    rw [e]
    rcases s.l with (s | ⟨o, s⟩) | ⟨o, its, n, h1, h2, _⟩
    · exact .base (.lst s)
    · exact .base (.frz s)
    · exact .kList h1 h2
  | exc _ _ => cases h
  | tuc ds =>
    cases h
    obtain ⟨a, vs, e, ⟨o, s, _⟩, _⟩ := rep_tuc_inv r
    rw [e]
    exact .fTuple s
  | ref a =>
    rw [rep_ref_inv r]
    simp only [tyN] at h
    cases q : M a with
    | none => rw [q] at h; cases h
    | some c =>
      rw [q] at h
      have rc := hv a c q
      cases c with
      | lst xs => cases h; obtain ⟨vs, e, _⟩ := rc; exact .base (.lst e)
      | dic xs => cases h; obtain ⟨vs, e, _⟩ := rc; exact .base (.dK e)
      | dit xs => cases h; obtain ⟨vs, e, _⟩ := rc; exact .base (.dT e)
      | fdc xs => cases h
      | obj C xs => cases h
      | tab xs => cases h
      | cod q => cases h
def acIsi : ARC := fun ds M Q => match ds with | [d, .ty n] => onS (tyN d M) fun T => ∃ b, kitB T n = some b ∧ Q (.bl b) M | _ => False
theorem abc_isi : AbC K (rIsi K) acIsi := by
  intro H M vs ds Q Q' r hv q k
  match ds, q with
  | [d, .ty n], q =>
    obtain ⟨T, h1, b, h2, q⟩ := onS_ex q
    obtain ⟨v, w, e, r1, r2⟩ := reps2 r
    rw [rep_ty_inv r2] at e
    exact ⟨v, .ty n, .type T, .type n, b, e, .ty n, tyN_ok r1 hv h1, kit_ty h2, k _ _ _ _ (Tp.refl H) rep_bl hv q⟩
theorem kit_ii : kitB "int" "int" = some true := by decide +kernel
theorem kit_ib : kitB "int" "bool" = some false := by decide +kernel
theorem kit_it : kitB "int" "tuple" = some false := by decide +kernel
theorem kit_is : kitB "int" "str" = some false := by decide +kernel
theorem kit_bi : kitB "bool" "int" = some true := by decide +kernel
theorem kit_bb : kitB "bool" "bool" = some true := by decide +kernel
theorem kit_bt : kitB "bool" "tuple" = some false := by decide +kernel
theorem kit_bs : kitB "bool" "str" = some false := by decide +kernel
theorem kit_ti : kitB "tuple" "int" = some false := by decide +kernel
theorem kit_tb : kitB "tuple" "bool" = some false := by decide +kernel
theorem kit_tt : kitB "tuple" "tuple" = some true := by decide +kernel
theorem kit_ts : kitB "tuple" "str" = some false := by decide +kernel
theorem kit_si : kitB "str" "int" = some false := by decide +kernel
theorem kit_sb : kitB "str" "bool" = some false := by decide +kernel
theorem kit_st : kitB "str" "tuple" = some false := by decide +kernel
theorem kit_ss : kitB "str" "str" = some true := by decide +kernel
theorem kit_ni : kitB "NoneType" "int" = some false := by decide +kernel
theorem kit_nb : kitB "NoneType" "bool" = some false := by decide +kernel
theorem kit_nt : kitB "NoneType" "tuple" = some false := by decide +kernel
theorem kit_ns : kitB "NoneType" "str" = some false := by decide +kernel
theorem kit_li : kitB "list" "int" = some false := by decide +kernel
theorem kit_lb : kitB "list" "bool" = some false := by decide +kernel
theorem kit_lt : kitB "list" "tuple" = some false := by decide +kernel
theorem kit_ls : kitB "list" "str" = some false := by decide +kernel
abbrev ARM := Dv → List Dv → Ms → DK → Prop
def AbM (K : PySem.W.Frag) (r : V → List V → Hp → VK → Prop) (ar : ARM) : Prop := ∀ H M x dx vs ds Q Q', Rep K H dx x → Reps K H ds vs → View K M H → ar dx ds M Q → LkV K H Q Q' → r x vs H Q'
def tyM (T : String) : Dv → Ms → Prop := fun d M => match d with
  | .str _ => T = "str"
  | .rol _ => T = "list"
  | .ref a => match M a with | some (.lst _) => T = "list" | some (.dic _) => T = "dict" | some (.dit _) => T = "dict" | _ => False
  | _ => False
theorem tyM_ok {M : Ms} {H : Hp} {d : Dv} {v : V} {T : String} (r : Rep K H d v) (hv : View K M H) (h : tyM T d M) : tyV K T v H := by
  cases d <;> first | exact h.elim | skip
  case str z => rw [rep_str_inv r]; exact h
  case rol z =>
    obtain ⟨a, vs, e, s, _⟩ := rep_rol_inv r
    rw [e]; exact .inl ⟨h, vs, s.l⟩
  case ref a =>
    rw [rep_ref_inv r]
    simp only [tyM] at h
    cases q : M a with
    | none => rw [q] at h; exact h.elim
    | some c =>
      rw [q] at h
      have rc := hv a c q
      cases c with
      | lst xs => obtain ⟨vs, e, _⟩ := rc; exact .inl ⟨h, vs, .inl (.inl e)⟩
      | dic xs => obtain ⟨vs, e, _⟩ := rc; exact .inr (.inr (.inl ⟨h, .inl ⟨vs, e⟩⟩))
      | dit xs => obtain ⟨vs, e, _⟩ := rc; exact .inr (.inr (.inl ⟨h, .inr ⟨vs, e⟩⟩))
      | fdc xs => exact h.elim
      | obj C xs => exact h.elim
      | tab xs => exact h.elim
      | cod q => exact h.elim
def aMth (T : String) (ar : ARM) (to : RE) (t : RA) : RE := fun ρ M Q => to ρ M fun x M1 => tyM T x M1 ∧ t ρ M1 fun ds M2 => ar x ds M2 Q
variable {T name mid : String} {nm : Str} {r : V → List V → Hp → VK → Prop} {ar : ARM}
theorem mth_imp (h : AbM K r ar) : ∀ σ H Q, cE K (aMth T ar to t) σ H Q → tBM K T r (cE K to) (cA K t) σ H Q := fun σ H Q' ⟨ρ, M, Q, hr, hv, q, k⟩ =>
  seqE hr hv q fun v H1 d M1 t1 r1 v1 ⟨ht, q1⟩ => ⟨tyM_ok r1 v1 ht, seqA (hr.mono t1) v1 q1 fun vs H2 ds M2 t2 r2 v2 q2 => h H2 M2 v d vs ds Q Q' (r1.mono t2) r2 v2 q2 (k.up (t1.trans t2))⟩
theorem ae_bm (pa : PlainAttrs T) (slot : Slot T nm mid) (hty : typeOf (.builtin mid) = pure (.type "method_descriptor")) (hm : MtR X mid r) (h : AbM X.K r ar) (ho : AE X o to) (ha : AA X (e :: es) t)
    (hbase : attributeBase o nm X.env (eval o X.env) = eval o X.env := by rfl)
    (hfew : ((backTo cpos (starEach (e :: es) X.env)).all (fun x => !x.1) && (backToKw cpos (keywordEach [] X.env)).all (fun x => x.1.isSome)
      && decide ((e :: es).length + ([] : List Keyword).length + (if ([] : List Keyword).isEmpty then 0 else 1) < 30)) = true := by rfl)
    (hline : (apos.endLine == cpos.line) = true := by rfl) (hs : starEach (e :: es) X.env = (false, eval e X.env) :: starEach es X.env := by rfl) (hplain : (backTo cpos (starEach es X.env)).any (·.1) = false := by rfl) :
    AE X (.Call (.Attribute o nm apos) (e :: es) [] cpos) (aMth T ar to t) := pe_imp (pe_bm pa slot hty hm ho ha hbase hfew hline hs hplain) (mth_imp h)
def amApp : ARM := fun x ds M Q => match x, ds with
  | .ref l, [d] => onS (lstC (M l)) fun xs => xs.length < sizeLine ∧ Q .non (mup M l (.lst (xs ++ [d])))
  | _, _ => False
theorem end_wr {H : Hp} {M : Ms} {l : Addr} {xs ys : List Dv} {vs : List V} {Q : DK} {Q' : VK} {d : Dv} {v : V} (hv : View K M H) (hl : M l = some (.lst xs)) (r : Reps K H ys vs) (rd : Rep K H d v) (q : Q d (mup M l (.lst ys))) (k : LkV K H Q Q') : Q' v (upd H l (.lst vs)) :=
  k _ _ d _ (Tp.put (hv.soft hl)) (rd.mono (Tp.put (hv.soft hl))) (hv.put (c := .lst ys) (hv.soft hl) ⟨vs, upd_same, r.mono (Tp.put (hv.soft hl))⟩) q
theorem abm_app : AbM K rAppend amApp := by
  intro H M x dx vs ds Q Q' rx rd hv q k
  match dx, ds, q with
  | .ref l, [d], q =>
    obtain ⟨xs, h1, hz, q⟩ := onS_ex q
    replace h1 := lstC_eq h1
    obtain ⟨v, e, r1⟩ := reps1 rd
    obtain ⟨ws, e2, z⟩ := view_lst hv h1
    exact ⟨l, ws, v, rep_ref_inv rx, e, e2, by rw [← z.length]; exact hz, end_wr hv h1 (z.append (Reps.cons r1 Reps.nil)) rep_non q k⟩
def amPop : ARM := fun x ds M Q => match x, ds with
  | .ref l, [.int i] => onS (lstC (M l)) fun xs => (0 ≤ i ∧ i < 4611686018427387904) ∧ onS xs[i.toNat]? fun d => Q d (mup M l (.lst (xs.eraseIdx i.toNat)))
  | _, _ => False
theorem seqIndex_nat {k n : Nat} (h : k < n) : seqIndex? (k : Int) n = some k := by
  have := (ixN_seq (n := n) (i := (k : Int)) (j := k) (by unfold ixN; rw [if_pos (by omega), if_pos (by omega), Int.toNat_natCast])).1
  exact this
theorem abm_pop : AbM K rPopAt amPop := by
  intro H M x dx vs ds Q Q' rx rd hv q k
  match dx, ds, q with
  | .ref l, [.int i], q =>
    obtain ⟨xs, h1, ⟨h0, hb⟩, q⟩ := onS_ex q
    obtain ⟨d, hd, q5⟩ := onS_ex q
    replace h1 := lstC_eq h1
    obtain ⟨kk, hk⟩ : ∃ kk, i.toNat = kk := ⟨_, rfl⟩
    rw [hk] at hd q5
    obtain ⟨v, e, r1⟩ := reps1 rd
    rw [rep_int_inv r1] at e
    obtain ⟨ws, e2, z⟩ := view_lst hv h1
    obtain ⟨w, hw, rw'⟩ := z.get hd
    have hl := (List.getElem?_eq_some_iff.mp hw).1
    have ei : i = (kk : Int) := by omega
    subst ei
    exact ⟨l, ws, kk, kk, w, rep_ref_inv rx, e, e2, by omega, by omega, seqIndex_nat hl, hw, end_wr hv h1 (z.eraseIdx kk) rw' q5 k⟩
theorem ae_append (ho : AE X o to) (ha : AA X [e] t) (hline : (apos.endLine == cpos.line) = true := by rfl) (hbase : attributeBase o "append" X.env (eval o X.env) = eval o X.env := by rfl)
    (hfew : ((backTo cpos (starEach [e] X.env)).all (fun x => !x.1) && (backToKw cpos (keywordEach [] X.env)).all (fun x => x.1.isSome)
      && decide (([e] : List Expr).length + ([] : List Keyword).length + (if ([] : List Keyword).isEmpty then 0 else 1) < 30)) = true := by rfl)
    (hs : starEach [e] X.env = (false, eval e X.env) :: starEach [] X.env := by rfl) (hplain : (backTo cpos (starEach [] X.env)).any (·.1) = false := by rfl) :
    AE X (.Call (.Attribute o "append" apos) [e] [] cpos) (aMth "list" amApp to t) := ae_bm PySem.F.plainAttrs_list PySem.F.slot_list_append PySem.F.type_list_append mt_append abm_app ho ha hbase hfew hline hs hplain
theorem ae_popAt (ho : AE X o to) (ha : AA X [e] t) (hline : (apos.endLine == cpos.line) = true := by rfl) (hbase : attributeBase o "pop" X.env (eval o X.env) = eval o X.env := by rfl)
    (hfew : ((backTo cpos (starEach [e] X.env)).all (fun x => !x.1) && (backToKw cpos (keywordEach [] X.env)).all (fun x => x.1.isSome)
      && decide (([e] : List Expr).length + ([] : List Keyword).length + (if ([] : List Keyword).isEmpty then 0 else 1) < 30)) = true := by rfl)
    (hs : starEach [e] X.env = (false, eval e X.env) :: starEach [] X.env := by rfl) (hplain : (backTo cpos (starEach [] X.env)).any (·.1) = false := by rfl) :
    AE X (.Call (.Attribute o "pop" apos) [e] [] cpos) (aMth "list" amPop to t) := ae_bm PySem.F.plainAttrs_list PySem.F.slot_list_pop PySem.F.type_list_pop mt_popAt abm_pop ho ha hbase hfew hline hs hplain
abbrev ASet := Dv → Dv → Dv → Ms → (Ms → Prop) → Prop
def putA {κ : Type} [DecidableEq κ] (kvs : List (κ × Dv)) (k : κ) (v : Dv) : List (κ × Dv) :=
  if (kvs.any fun kv => decide (kv.1 = k)) = true then kvs.map (fun kv => if kv.1 = k then (kv.1, v) else kv) else kvs ++ [(k, v)]
def asSet : ASet := fun x i v M Q => match x with
  | .ref a => match M a with
    | some (.lst xs) => onI i fun k => onS (ixN xs.length k) fun j => Q (mup M a (.lst (xs.set j v)))
    | some (.dic kvs) => onS (keyD i) fun k => kvs.length < sizeLine ∧ Q (mup M a (.dic (putA kvs k v)))
    | _ => False
  | _ => False
def rSetH : V → V → V → Hp → (Hp → Prop) → Prop := fun o i v H Q => rSetL o i v H Q ∨ ∃ a H', o = .ref a ∧ DPut H a i v H' ∧ Q H'
theorem set_H (hu : X.A.units + 1 < cLine) : PSet X rSetH := by
  intro pins s σ H o i v ov iv u Q I ro ri rv h
  rcases h with h | ⟨a, H', rfl, g, q⟩
  · exact set_list pins s σ H o i v ov iv u Q I ro ri rv h
  · obtain rfl : ov = Value.ref a := ro
    exact d_setItem hu I g ri rv fun s' I' => ⟨H', I', q⟩
abbrev KP (K : PySem.W.Frag) (H : Hp) (κ : Type) : List (κ × Dv) → List (κ × V) → Prop := Paired (fun (p : κ × Dv) (q : κ × V) => p.1 = q.1 ∧ Rep K H p.2 q.2)
theorem kp_any {H : Hp} {κ : Type} [DecidableEq κ] {k : κ} : ∀ {kds : List (κ × Dv)} {kvs : List (κ × V)}, KP K H κ kds kvs → (kds.any fun kv => decide (kv.1 = k)) = (kvs.any fun kv => decide (kv.1 = k))
  | _, _, .nil => rfl
  | (k1, d) :: kds, (k2, v) :: kvs, .cons ⟨e, r⟩ t => by
    have e' : k1 = k2 := e
    subst e'
    simp only [List.any_cons]
    rw [kp_any t]
theorem kp_map {H : Hp} {κ : Type} [DecidableEq κ] {k : κ} {d : Dv} {v : V} (rd : Rep K H d v) : ∀ {kds : List (κ × Dv)} {kvs : List (κ × V)}, KP K H κ kds kvs → KP K H κ (kds.map (fun kv => if kv.1 = k then (kv.1, d) else kv)) (kvs.map (fun kv => if kv.1 = k then (kv.1, v) else kv))
  | _, _, .nil => .nil
  | (k1, d1) :: kds, (k2, v1) :: kvs, .cons ⟨e, r⟩ t => by
    have e' : k1 = k2 := e
    subst e'
    rw [List.map_cons, List.map_cons]
    refine .cons ?_ (kp_map rd t)
    by_cases h : k1 = k
    · simpa [h] using rd
    · simpa [h] using r
theorem kp_app {H : Hp} {κ : Type} : ∀ {kds es : List (κ × Dv)} {kvs fs : List (κ × V)}, KP K H κ kds kvs → KP K H κ es fs → KP K H κ (kds ++ es) (kvs ++ fs)
  | _, _, _, _, .nil, h => h
  | _, _, _, _, .cons r t, h => .cons r (kp_app t h)
theorem kp_put {H : Hp} {κ : Type} [DecidableEq κ] {k : κ} {d : Dv} {v : V} (rd : Rep K H d v) {kds : List (κ × Dv)} {kvs : List (κ × V)} (h : KP K H κ kds kvs) : KP K H κ (putA kds k d) (putK kvs k v) := by
  unfold putA putK
  rw [kp_any h]
  split
  · exact kp_map rd h
  · exact kp_app h (.cons ⟨rfl, rd⟩ .nil)
theorem kp_mono {H H' : Hp} {κ : Type} {kds : List (κ × Dv)} {kvs : List (κ × V)} (h : KP K H κ kds kvs) (t : Tp K H H') : KP K H' κ kds kvs := Paired.mapP h fun _ _ z => ⟨z.1, z.2.mono t⟩
theorem kp_len {H : Hp} {κ : Type} {kds : List (κ × Dv)} {kvs : List (κ × V)} (h : KP K H κ kds kvs) : kds.length = kvs.length := Paired.length h
def agSub (to ti : RE) (s : ASet) : RG := fun d ρ M Q => to ρ M fun x M1 => ti ρ M1 fun i M2 => s x i d M2 fun M3 => Q ρ M3
theorem ag_sub {i : Expr} {ti : RE} (hu : X.A.units + 1 < cLine) (ho : AE X o to) (hi : AE X i ti)
    (ha : ∀ v, assign (.Subscript o i pos) X.env v = (do
      let ov ← holding [v] (eval o X.env)
      let iv ← holding [v, ov] (eval i X.env)
      standAt pos
      holding [v, ov, iv] (setItem ov iv v)
      release [v, ov, iv] []) := by intro _; rfl) : AG X (.Subscript o i pos) (agSub to ti asSet) :=
  pg_imp (pg_sub ho hi (set_H hu) ha) fun v σ H Q' h => by
    obtain ⟨d, ρ, M, Q, rd, hr, hv, q, k⟩ := h
    refine seqE hr hv q fun x H1 dx M1 t1 r1 v1 q1 => seqE (hr.mono t1) v1 q1 fun iv H2 di M2 t2 r2 v2 q2 => ?_
    have t12 := t1.trans t2
    have rx := r1.mono t2
    have rd2 := rd.mono t12
    cases dx <;> first | exact q2.elim | skip
    case ref a =>
      simp only [asSet] at q2
      cases e : M2 a with
      | none => rw [e] at q2; exact q2.elim
      | some c =>
        rw [e] at q2
        cases c with
        | lst xs =>
          obtain ⟨kk, e1, q4⟩ := onI_ex q2
          obtain ⟨j, hj, q5⟩ := onS_ex q4
          subst e1
          obtain ⟨vs, e2, z⟩ := view_lst v2 e
          refine .inl ⟨a, vs, kk, j, rep_ref_inv rx, rep_int_inv r2, e2, by rw [← z.length]; exact hj, ?_⟩
          exact k _ _ _ _ (t12.trans (Tp.put (v2.soft e))) (hr.mono (t12.trans (Tp.put (v2.soft e)))) (v2.put (c := .lst (xs.set j d)) (v2.soft e) ⟨vs.set j v, upd_same, (z.set j rd2).mono (Tp.put (v2.soft e))⟩) q5
        | dic kds =>
          obtain ⟨kk, e1, hz, q2⟩ := onS_ex q2
          obtain ⟨kvs, e2, z⟩ := (show ∃ kvs', H2 a = some (.dK kvs') ∧ KP X.K H2 Key kds kvs' from v2 a _ e)
          refine .inr ⟨a, upd H2 a (.dK (putK kvs kk v)), rep_ref_inv rx, .inl ⟨kvs, kk, e2, keyD_ok r2 e1, by rw [← kp_len z]; exact hz, rfl⟩, ?_⟩
          exact k _ _ _ _ (t12.trans (Tp.put (v2.soft e))) (hr.mono (t12.trans (Tp.put (v2.soft e)))) (v2.put (c := .dic (putA kds kk d)) (v2.soft e) ⟨_, upd_same, kp_mono (kp_put rd2 z) (Tp.put (v2.soft e))⟩) q2
        | dit _ => exact q2.elim
        | fdc _ => exact q2.elim
        | obj _ _ => exact q2.elim
        | tab _ => exact q2.elim
        | cod _ => exact q2.elim
end
end HC
set_option maxHeartbeats 200000
namespace HC
open PySem L2 PyProof.Rows
section
variable {X : Cx} {a b c e o tg : Expr} {ta tb tc te to : RE} {pos apos cpos p tpos : Pos} {K : PySem.W.Frag} {es : List Expr} {t : RA}
def on1 (ds : List Dv) (Q : Dv → Prop) : Prop := match ds with | [d] => Q d | _ => False
theorem on1_ex {ds : List Dv} {Q : Dv → Prop} (h : on1 ds Q) : ∃ d, ds = [d] ∧ Q d := by
  match ds, h with
  | [d], h => exact ⟨d, rfl, h⟩
def on2 (ds : List Dv) (Q : Dv → Dv → Prop) : Prop := match ds with | [d, f] => Q d f | _ => False
theorem on2_ex {ds : List Dv} {Q : Dv → Dv → Prop} (h : on2 ds Q) : ∃ d f, ds = [d, f] ∧ Q d f := by
  match ds, h with
  | [d, f], h => exact ⟨d, f, rfl, h⟩
def aiSeq (te : RE) : RI := fun ρ M Q => te ρ M fun d M1 => onS (itemsA d M1) fun ds => Q ds (fun M => itemsA d M = some ds) M1
theorem pi_seq {tl : TE} (hl : PE X e tl) : PI X tg e (fun σ H R => tl σ H fun x H1 => ∃ a, x = .ref a ∧ ((∃ xs, SqL X.K H1 a xs) ∧ R (Itl X.K a) H1 ∨ (∃ xs, SqT X.K H1 a xs) ∧ R (Itt X.K a) H1)) := by
  refine ⟨fun pins s σ H R I h => ?_⟩
  refine thn (hl.run pins s σ H _ I h) fun v s1 ⟨x, H1, I1, r1, q1⟩ => ?_
  obtain ⟨a, e, ⟨⟨xs, hq⟩, q⟩ | ⟨⟨xs, hq⟩, q⟩⟩ := q1
  · subst e
    cases r1
    obtain ⟨its, rv, p, hz⟩ := I1.list hq
    refine wpAny_pyIter_list p.isList ?_
    refine ⟨s1.heap.objs.size, [s1.heap.objs.size], _, _, H1, rfl, I1.kept (t' := s1.toks) fun b o e => Heap.get?_push_of_some _ e, turn_list a _, ⟨_, Heap.get?_push_size _ rfl, rfl, rfl⟩, fun b hb => ?_, q⟩
    have e : b = s1.heap.objs.size := by simpa using hb
    subst e
    exact I1.fpOk (Nat.le_refl _) (I1.hok.fresh (Nat.le_refl _))
  · subst e
    cases r1
    obtain ⟨its, rv, p, hz⟩ := I1.tuple hq
    refine wpAny_pyIter_tuple (show s1.heap.IsTuple a its.toArray from p) ?_
    refine ⟨s1.heap.objs.size, [s1.heap.objs.size], _, _, H1, rfl, I1.kept (t' := s1.toks) fun b o e => Heap.get?_push_of_some _ e, turn_tuple a _, ⟨_, Heap.get?_push_size _ rfl, rfl, rfl⟩, fun b hb => ?_, q⟩
    have e : b = s1.heap.objs.size := by simpa using hb
    subst e
    exact I1.fpOk (Nat.le_refl _) (I1.hok.fresh (Nat.le_refl _))
theorem items_stand {H1 : Hp} {M1 : Ms} {d : Dv} {v : V} {ds : List Dv} (r : Rep K H1 d v) (hv : View K M1 H1) (h : itemsA d M1 = some ds) :
    ∃ a vs, v = .ref a ∧ Reps K H1 ds vs ∧ ((SqT K H1 a vs ∧ ∀ H, Tp K H1 H → SqT K H a vs) ∨ (SqL K H1 a vs ∧ ∀ H M, Tp K H1 H → View K M H → itemsA d M = some ds → ∃ ws, SqL K H a ws ∧ Reps K H ds ws)) := by
  cases d <;> first | cases h; done | skip
  case tup es =>
    cases h
    obtain ⟨a, vs, e, s, z⟩ := rep_tup_inv r
    exact ⟨a, vs, e, z, .inl ⟨s, fun H t => t.t _ _ s⟩⟩
  case rol es =>
    cases h
    obtain ⟨a, vs, e, s, z⟩ := rep_rol_inv r
    exact ⟨a, vs, e, z, .inr ⟨s.l, fun H M t _ _ => ⟨vs, (t.f _ _ s).l, z.mono t⟩⟩⟩
  case tuc es =>
    cases h
    obtain ⟨a, vs, e, s, z⟩ := rep_tuc_inv r
    exact ⟨a, vs, e, z, .inl ⟨s.t, fun H t => t.t _ _ s.t⟩⟩
  case ref a =>
    simp only [itemsA] at h
    cases q : M1 a with
    | none => rw [q] at h; cases h
    | some c =>
      rw [q] at h
      cases c with
      | dic _ => cases h
      | dit _ => cases h
      | fdc _ => cases h
      | obj _ _ => cases h
      | tab _ => cases h
      | cod _ => cases h
      | lst es =>
        cases h
        obtain ⟨vs, h1, h2⟩ := view_lst hv q
        refine ⟨a, vs, rep_ref_inv r, h2, .inr ⟨.inl (.inl h1), fun H M t v' hk => ?_⟩⟩
        simp only [itemsA] at hk
        cases q' : M a with
        | none => rw [q'] at hk; cases hk
        | some c' =>
          rw [q'] at hk
          cases c' with
          | dic _ => cases hk
          | dit _ => cases hk
          | fdc _ => cases hk
          | obj _ _ => cases hk
          | tab _ => cases hk
          | cod _ => cases hk
          | lst es' =>
            cases hk
            obtain ⟨ws, h3, h4⟩ := view_lst v' q'
            exact ⟨ws, .inl (.inl h3), h4⟩
theorem iw_list {a : Addr} {ds : List Dv} {keep : Ms → Prop} {H1 : Hp} (h : ∀ H M, Tp K H1 H → View K M H → keep M → ∃ ws, SqL K H a ws ∧ Reps K H ds ws) : IW K (Itl K a) ds keep H1 where
  go := fun i H M hi t v k => by
    obtain ⟨ws, s, z⟩ := h H M t v k
    obtain ⟨w, hw, _⟩ := z.get (List.getElem?_eq_getElem hi)
    exact ⟨ws, w, s, hw⟩
  stop := fun H M t v k => by
    obtain ⟨ws, s, z⟩ := h H M t v k
    exact ⟨ws, s, by rw [← z.length]; exact Nat.le_refl _⟩
  yld := fun i H M x H' hi t v k y => by
    obtain ⟨ws, s, z⟩ := h H M t v k
    obtain ⟨w, hw, rw'⟩ := z.get (List.getElem?_eq_getElem hi)
    obtain ⟨e, y2⟩ := y
    subst e
    have := y2 ws s
    rw [hw] at this
    cases this
    exact ⟨_, List.getElem?_eq_getElem hi, Tp.refl _, rw', v, fun _ _ => rfl⟩
theorem iw_tup {a : Addr} {ds : List Dv} {vs : List V} {keep : Ms → Prop} {H1 : Hp} (z0 : Reps K H1 ds vs) (h : ∀ H, Tp K H1 H → SqT K H a vs) : IW K (Itt K a) ds keep H1 where
  go := fun i H M hi t v k => by
    obtain ⟨w, hw, _⟩ := z0.get (List.getElem?_eq_getElem hi)
    exact ⟨vs, w, h H t, hw⟩
  stop := fun H M t v k => ⟨vs, h H t, by rw [← z0.length]; exact Nat.le_refl _⟩
  yld := fun i H M x H' hi t v k y => by
    obtain ⟨w, hw, rw'⟩ := (z0.mono t).get (List.getElem?_eq_getElem hi)
    obtain ⟨e, y2⟩ := y
    subst e
    have := y2 vs (h _ t)
    rw [hw] at this
    cases this
    exact ⟨_, List.getElem?_eq_getElem hi, Tp.refl _, rw', v, fun _ _ => rfl⟩
theorem ai_seq (h : AE X e te) : AI X tg e (aiSeq te) := pi_imp (pi_seq h) fun σ H R ⟨ρ, M, Q, hr, hv, q, k⟩ => seqE hr hv q fun v H1 d M1 t1 r1 v1 q1 => by
  obtain ⟨ds, hi, q1⟩ := onS_ex q1
  obtain ⟨a, vs, e1, z, hs⟩ := items_stand r1 v1 hi
  refine ⟨a, e1, ?_⟩
  rcases hs with ⟨s, hs⟩ | ⟨s, hs⟩
  · exact .inr ⟨⟨vs, s⟩, k _ H1 ds _ M1 t1 v1 q1 (iw_tup z hs)⟩
  · exact .inl ⟨⟨vs, s⟩, k _ H1 ds _ M1 t1 v1 q1 (iw_list hs)⟩
def rangeA (lo : Int) (n : Nat) : List Dv := (List.range n).map fun (i : Nat) => Dv.int (lo + (i : Int))
theorem iw_range {lo : Int} {n : Nat} {keep : Ms → Prop} {H1 : Hp} : IW K (Itr lo n) (rangeA lo n) keep H1 where
  go := fun i H M hi t v k => by
    have h : i < n := by simpa [rangeA] using hi
    exact h
  stop := fun H M t v k => by simp [rangeA, Itr]
  yld := fun i H M x H' hi t v k y => by
    obtain ⟨e, y2⟩ := y
    subst e y2
    refine ⟨.int (lo + (i : Int)), ?_, Tp.refl _, rep_int, v, fun _ _ => rfl⟩
    have : i < n := by simpa [rangeA] using hi
    simp [rangeA, this]
def aiR1 (t : RA) : RI := fun ρ M Q => t ρ M fun ds M1 => on1 ds fun d => onI d fun j => (-(2 ^ 62) ≤ j ∧ j < 2 ^ 62) ∧ Q (rangeA 0 j.toNat) (fun _ => True) M1
theorem ai_range1 (hm : X.mg "range" = none) (ha : AA X [a] t) (hg : Gl X "range" := by rfl) (hs : starEach [a] X.env = [(false, eval a X.env)] := by rfl) : AI X tg (.Call (.Name "range" p) [a] [] pos) (aiR1 t) :=
  pi_imp (pi_range1 hg hm ha hs) fun σ H R ⟨ρ, M, Q, hr, hv, q, k⟩ => seqA hr hv q fun vs H1 ds M1 t1 r1 v1 q1 => by
    obtain ⟨d, e0, q4⟩ := on1_ex q1
    obtain ⟨j, e3, h1, q5⟩ := onI_ex q4
    subst e0 e3
    obtain ⟨v, e, rd⟩ := reps1 r1
    exact ⟨j, by rw [e, rep_int_inv rd], h1.1, h1.2, k _ H1 _ _ M1 t1 v1 q5 iw_range⟩
def pairD (x y : Dv) : Dv := .tup [x, y]
theorem rep_pair {H : Hp} {T : Addr} {x y : V} {d f : Dv} (hn : H T = none) (r1 : Rep K H d x) (r2 : Rep K H f y) : Rep K (upd H T (.tup [x, y])) (pairD d f) (.ref T) :=
  rep_tup (.inl (.inl upd_same)) (Reps.cons (r1.mono (Tp.new hn)) (Reps.cons (r2.mono (Tp.new hn)) Reps.nil))
def enumD (ds : List Dv) : List Dv := (List.range ds.length).zipWith (fun (i : Nat) d => pairD (.int (i : Int)) d) ds
theorem enumD_len (ds : List Dv) : (enumD ds).length = ds.length := by simp [enumD]
theorem enumD_get {ds : List Dv} {i : Nat} {d : Dv} (h : ds[i]? = some d) : (enumD ds)[i]? = some (pairD (.int (i : Int)) d) := by
  have hl := (List.getElem?_eq_some_iff.mp h).1
  have he : ds[i] = d := (List.getElem?_eq_some_iff.mp h).2
  simp [enumD, List.getElem?_zipWith, h, hl, he]
theorem iw_enum {a : Addr} {ds : List Dv} {keep : Ms → Prop} {H1 : Hp} (h : ∀ H M, Tp K H1 H → View K M H → keep M → ∃ ws, SqL K H a ws ∧ Reps K H ds ws) : IW K (Ite K a) (enumD ds) keep H1 where
  go := fun i H M hi t v k => by
    rw [enumD_len] at hi
    obtain ⟨ws, s, z⟩ := h H M t v k
    obtain ⟨w, hw, _⟩ := z.get (List.getElem?_eq_getElem hi)
    exact ⟨ws, w, s, hw⟩
  stop := fun H M t v k => by
    obtain ⟨ws, s, z⟩ := h H M t v k
    exact ⟨ws, s, by rw [enumD_len, ← z.length]; exact Nat.le_refl _⟩
  yld := fun i H M x H' hi t v k y => by
    rw [enumD_len] at hi
    obtain ⟨ws, s, z⟩ := h H M t v k
    obtain ⟨w, hw, rw'⟩ := z.get (List.getElem?_eq_getElem hi)
    obtain ⟨T, x', e, hn, e2, y2⟩ := y
    subst e e2
    have := y2 ws s
    rw [hw] at this
    cases this
    exact ⟨_, enumD_get (List.getElem?_eq_getElem hi), Tp.new hn, rep_pair hn rep_int rw', v.new hn, fun a ha => upd_ne fun q => ha (q ▸ hn)⟩
def zipD (xs ys : List Dv) : List Dv := xs.zipWith pairD ys
theorem zipD_get {xs ys : List Dv} {i : Nat} {x y : Dv} (h : xs[i]? = some x) (h' : ys[i]? = some y) : (zipD xs ys)[i]? = some (pairD x y) := by simp [zipD, List.getElem?_zipWith, h, h']
theorem zipD_len (xs ys : List Dv) : (zipD xs ys).length = min xs.length ys.length := by simp [zipD]
end
end HC
set_option maxHeartbeats 1000000
namespace HC
open PySem PySem.Spec L2 PyProof.Rows
theorem meets_enum_newB {v : Value} {o : Obj} {H : Heap → Prop} (B : Begins v o H) :
    Meets (Builtin.«enumerate.__new__» ⟨[.type "enumerate", v], []⟩) (fun _ R s => H s.heap ∧
      R (.ok (.ret (.ref (s.heap.push o).objs.size))) { s with heap := (s.heap.push o).push { cls := .type "enumerate", data := .fields #[.none, .bool false, .ref s.heap.objs.size, rawInt 0, .none, .none] } }) :=
  .of_wp fun prog w A R s h => by
    obtain ⟨hp, g, d, tk, os⟩ := s; obtain ⟨h1, h⟩ := h
    have hsub := sub_enumerate
    have q1 : ∀ {A' : Around} {E : Value → Shared → Prop} {Q : Value → Shared → Prop}, Q (.ref hp.objs.size) ⟨hp.push o, g, d, tk, os⟩ → wpAny (model prog w) A' (pyIter v) Q E ⟨hp, g, d, tk, os⟩ :=
      fun q => B.iter prog w _ _ ⟨hp, g, d, tk, os⟩ _ h1 q
    wp_walk using q1
    refine wpAny_stack_any fun st => wpAny_pure ?_
    split
    · rename_i c _ _ _ _ _
      cases (c == Value.type "enumerate")
      · wp_walk using q1
        exact ⟨_, rfl, h⟩
      · wp_walk using q1
        exact ⟨_, rfl, h⟩
    · wp_walk using q1
      exact ⟨_, rfl, h⟩
section
variable {prog : Program} {w : World} {A : Around} {E : Value → Shared → Prop} {s : Shared}
theorem call_enum_B {v : Value} {o : Obj} {H : Heap → Prop} {Q : Value → Shared → Prop} (B : Begins v o H) (h1 : H s.heap)
    (h : ∀ h', IsEnum h' (s.heap.objs.size + 1) s.heap.objs.size 0 .none → h'.get? s.heap.objs.size = some o → h'.objs.size = s.heap.objs.size + 2 →
      (∀ b o, s.heap.get? b = some o → h'.get? b = some o) → Q (.ref (s.heap.objs.size + 1)) { s with heap := h' }) :
    wpAny (model prog w) A (call (.type "enumerate") [v]) Q E s := by
  refine callType_new F.called_enumerate (by decide) (F.typeCall_enumerate_1 _) (F.newCall_enumerate_1 _) (fun obj => F.args_object_init_2 obj _) F.entry_enumerate_new
    (meets_enum_newB B) ⟨h1, ?_⟩
  have hz : (s.heap.push o).objs.size = s.heap.objs.size + 1 := Heap.size_push ..
  show _ ∧ _
  rw [hz]
  have he : IsEnum ((s.heap.push o).push { cls := .type "enumerate", data := .fields #[.none, .bool false, .ref s.heap.objs.size, rawInt 0, .none, .none] }) (s.heap.objs.size + 1) s.heap.objs.size 0 .none := by
    have := Heap.get?_push_size (s.heap.push o) (o := { cls := .type "enumerate", data := .fields #[.none, .bool false, .ref s.heap.objs.size, rawInt 0, .none, .none] }) rfl
    rw [hz] at this; exact this
  refine ⟨⟨_, he, rfl⟩, h _ he (Heap.get?_push_of_some _ (Heap.get?_push_size _ B.free)) (by rw [Heap.size_push, hz]) fun b o x => Heap.get?_push_of_some _ (Heap.get?_push_of_some _ x)⟩
end
def IteT (K : PySem.W.Frag) (a : Addr) : It :=
  ⟨fun i H => ∃ (xs : List V) (x : V), SqT K H a xs ∧ xs[i]? = some x, fun i H v H' => ∃ T x, v = .ref T ∧ H T = none ∧ H' = upd H T (.tup [.int (i : Nat), x]) ∧ ∀ xs, SqT K H a xs → xs[i]? = some x, fun i H => ∃ xs : List V, SqT K H a xs ∧ xs.length = i⟩
theorem turn_enumT {P : Program} {w : World} {K : PySem.W.Frag} {elts : List Expr} {kk : Nat} {tpos : Pos} (a e it : Addr) :
    Turn P w K (.Tuple elts kk tpos) (IteT K a) [e, it] e (fun i h => (∃ old, IsEnum h e it ((i : Nat) : Int) old) ∧ h.IsTupleIter it a i ∧ e ≠ it) where
  mem := by simp
  obj := fun i h st b hb => by
    obtain ⟨⟨old, he⟩, ⟨o, ho, hc, hd⟩, _⟩ := st
    have e' : b = e ∨ b = it := by simpa using hb
    rcases e' with z | z
    · rw [z]; exact ⟨_, he, fun v q => nomatch q⟩
    · rw [z]; exact ⟨o, ho, fun v q => by rw [hd] at q; cases q⟩
  keep := fun i h h' st k => let ⟨⟨old, he⟩, hi, hne⟩ := st; ⟨⟨old, k e (by simp) _ he⟩, hi.at fun o q => k it (by simp) o q, hne⟩
  item := by
    intro X hP hw hK hc i pins s σ H E I hf st hg
    subst hP hw hK
    obtain ⟨⟨old, he⟩, hit, hne⟩ := st
    obtain ⟨xs, x, hq, hx⟩ := hg
    obtain ⟨its, rv, p, hz⟩ := I.tuple hq
    obtain ⟨u, hu, ru⟩ := rv.get hx
    have hel : e < s.heap.objs.size := Heap.lt_size he
    have hil : it < s.heap.objs.size := by obtain ⟨_, q, _⟩ := hit; exact Heap.lt_size q
    have nae : e ≠ a := by
      intro q
      obtain ⟨o, ho, hcl, _⟩ := p
      rw [← q] at ho
      have := he.symm.trans ho
      cases this
      injection hcl with hc'
      exact absurd hc' (by decide)
    have nai : a ≠ it := by
      intro q
      obtain ⟨o, ho, hcl, _⟩ := p
      obtain ⟨o2, ho2, hc2, _⟩ := hit
      rw [q, ho2] at ho
      cases ho
      rw [hc2] at hcl
      injection hcl with hc'
      exact absurd hc' (by decide)
    have hil2 : i < its.toArray.size := by
      have := (List.getElem?_eq_some_iff.mp hu).1
      simpa using this
    refine wpAny_pyNext_enum_itemC (Draws.tuple (A := X.A.in1) (show X.A.in1.handled = none from I.ok.hd hc) it a nai its.toArray) he ⟨hit, p⟩ hil2 hne (by simp [hne, nae]) fun x' h' tk hx' ho hst' hT hsz hk => ?_
    obtain ⟨hit', _⟩ := hst'
    have ex : x' = u := by
      have h1 : its.toArray[i]? = some u := by simpa using hu
      rw [h1] at hx'
      exact (Option.some.inj hx').symm
    subst ex
    refine ⟨_, rfl, wpAny_letOwnedTupleGo_enum (s := { s with heap := h', toks := tk + 1 }) ho fun h'' he' sb => ?_⟩
    have hT2 : h''.get? s.heap.objs.size = some { cls := .type "tuple", data := .seq #[.int i tk, x'] } := (sb.2 _ (Nat.ne_of_gt hel)).trans hT
    have new : ObjOk X.prog X.w (upd H s.heap.objs.size (.tup [.int (i : Nat), x])) h'' s.heap.objs.size (.tup [.int (i : Nat), x]) :=
      ⟨by show 2 ≤ sizeLine; decide, [.int i tk, x'], .cons ⟨_, rfl⟩ (.cons ru .nil), ⟨_, hT2, rfl, _, rfl⟩⟩
    have I1 : Inv X pins σ (upd H s.heap.objs.size (.tup [.int (i : Nat), x])) { s with heap := h'', toks := tk + 1 } :=
      I.turnedNew (ch := [e, it]) (fun b ob hb q => (sb.2 b (fun z => hb (by simp [z]))).trans (hk b ob (fun z => hb (by simp [z])) (fun z => hb (by simp [z])) q)) hf (Nat.le_refl _) new
    refine ⟨.ref s.heap.objs.size, _, I1, rfl, ⟨_, x, rfl, I.hok.fresh (Nat.le_refl _), rfl, fun ys hy => by rw [I.tuple_inj hy hq]; exact hx⟩, ⟨⟨x', ?_⟩, hit'.at fun o q => (sb.2 it (Ne.symm hne)).trans q, hne⟩, fun b hb => ?_⟩
    · have e1 : ((i + 1 : Nat) : Int) = (i : Int) + 1 := by omega
      rw [e1]; exact he'
    · have hb' : b < s.heap.objs.size := by
        have e' : b = e ∨ b = it := by simpa using hb
        rcases e' with z | z
        · rw [z]; exact hel
        · rw [z]; exact hil
      rw [upd_ne (Nat.ne_of_lt hb')]
      exact (hf b hb).1
  done := by
    intro X hP hw hK hc i pins s σ H E I hf st hg
    subst hP hw hK
    obtain ⟨⟨old, he⟩, hit, hne⟩ := st
    obtain ⟨xs, hq, hx⟩ := hg
    obtain ⟨its, rv, p, hz⟩ := I.tuple hq
    obtain ⟨f0, f1, f2, f3, f4, f5⟩ := hf it (by simp)
    have hl := rv.length
    have nai : a ≠ it := by
      intro q
      obtain ⟨o, ho, hcl, _⟩ := p
      obtain ⟨o2, ho2, hc2, _⟩ := hit
      rw [q, ho2] at ho
      cases ho
      rw [hc2] at hcl
      injection hcl with hc'
      exact absurd hc' (by decide)
    have hst : (fun i (h : Heap) => h.IsTupleIter it a i ∧ h.IsTuple a its.toArray) its.toArray.size s.heap := ⟨by
      have e2 : its.toArray.size = i := by simp; omega
      rw [e2]; exact hit, p⟩
    refine wpAny_pyNext_enum_endD (Draws.tuple (prog := X.prog) (w := X.w) (A := X.A.in1) (show X.A.in1.handled = none from I.ok.hd hc) it a nai its.toArray) he hst fun h' eb => ⟨rfl, I.turned (t' := s.toks) (fun b o hb q => eb b o hb q) f0 f1 f3 f4 f5⟩
  self := fun A i s Q E st h => let ⟨⟨_, he⟩, _⟩ := st; wpAny_pyIter_enum he h
def iEnumA (K : PySem.W.Frag) (ta : TA) : TI := fun σ H R => ta σ H fun vs H1 => ∃ a xs, vs = [.ref a] ∧ ((SqL K H1 a xs ∧ R (Ite K a) H1) ∨ (SqT K H1 a xs ∧ R (IteT K a) H1))
theorem pi_enumA {X : Cx} {e : Expr} {ta : TA} {p pos tpos : Pos} {elts : List Expr} {kk : Nat} (hg : Gl X "enumerate") (hm : X.mg "enumerate" = none) (ha : PA X [e] ta) (hs : starEach [e] X.env = [(false, eval e X.env)] := by rfl) :
    PI X (.Tuple elts kk tpos) (.Call (.Name "enumerate" p) [e] [] pos) (iEnumA X.K ta) := by
  refine ⟨fun pins s σ H R I h => ?_⟩
  refine Call_ (ld_blt I hg hm boot_enumerate (PyProof.Rows.callWith_type1 (thn (ha.run pos pins s σ H _ I h) fun us s1 ⟨vs, H1, I1, r1, q1⟩ => ?_) hs rfl))
  obtain ⟨a, xs, ex, q1⟩ := q1
  subst ex
  cases r1 with
  | cons r rr =>
    cases rr
    cases r
    rcases q1 with ⟨hq, q⟩ | ⟨hq, q⟩
    · obtain ⟨its, rv, p', hz⟩ := I1.list hq
      refine call_enumerate_list p'.isList fun h' he hit hsz hk => wpAny_pyIter_enum he ?_
      have I2 : Inv X pins σ H1 { s1 with heap := h' } := I1.kept (t' := s1.toks) hk
      refine ⟨s1.heap.objs.size + 1, [s1.heap.objs.size + 1, s1.heap.objs.size], _, _, H1, rfl, I2, turn_enum a (s1.heap.objs.size + 1) s1.heap.objs.size, ⟨⟨.none, he⟩, hit, Nat.succ_ne_self _⟩, fun b hb => ?_, q⟩
      have e' : b = s1.heap.objs.size + 1 ∨ b = s1.heap.objs.size := by simpa using hb
      have hle : s1.heap.objs.size ≤ b := by
        rcases e' with z | z
        · rw [z]; exact Nat.le_add_right _ _
        · rw [z]; exact Nat.le_refl _
      exact I1.fpOk hle (I1.hok.fresh hle)
    · obtain ⟨its, rv, p', hz⟩ := I1.tuple hq
      refine call_enum_B (begins_tuple a its.toArray) (show s1.heap.IsTuple a its.toArray from p') fun h' he hit hsz hk => wpAny_pyIter_enum he ?_
      have I2 : Inv X pins σ H1 { s1 with heap := h' } := I1.kept (t' := s1.toks) hk
      refine ⟨s1.heap.objs.size + 1, [s1.heap.objs.size + 1, s1.heap.objs.size], _, _, H1, rfl, I2, turn_enumT a (s1.heap.objs.size + 1) s1.heap.objs.size, ⟨⟨.none, he⟩, ⟨_, hit, rfl, rfl⟩, Nat.succ_ne_self _⟩, fun b hb => ?_, q⟩
      have e' : b = s1.heap.objs.size + 1 ∨ b = s1.heap.objs.size := by simpa using hb
      have hle : s1.heap.objs.size ≤ b := by
        rcases e' with z | z
        · rw [z]; exact Nat.le_add_right _ _
        · rw [z]; exact Nat.le_refl _
      exact I1.fpOk hle (I1.hok.fresh hle)
section
variable {X : Cx} {e : Expr} {t : RA} {K : PySem.W.Frag} {p pos tpos : Pos}
theorem iw_enumT {a : Addr} {ds : List Dv} {vs : List V} {keep : Ms → Prop} {H1 : Hp} (z0 : Reps K H1 ds vs) (h : ∀ H, Tp K H1 H → SqT K H a vs) : IW K (IteT K a) (enumD ds) keep H1 where
  go := fun i H M hi t v k => by
    rw [enumD_len] at hi
    obtain ⟨w, hw, _⟩ := z0.get (List.getElem?_eq_getElem hi)
    exact ⟨vs, w, h H t, hw⟩
  stop := fun H M t v k => ⟨vs, h H t, by rw [enumD_len, ← z0.length]⟩
  yld := fun i H M x H' hi t v k y => by
    rw [enumD_len] at hi
    obtain ⟨w, hw, rw'⟩ := (z0.mono t).get (List.getElem?_eq_getElem hi)
    obtain ⟨T, x', e, hn, e2, y2⟩ := y
    subst e e2
    have := y2 vs (h _ t)
    rw [hw] at this
    cases this
    exact ⟨_, enumD_get (List.getElem?_eq_getElem hi), Tp.new hn, rep_pair hn rep_int rw', v.new hn, fun a ha => upd_ne fun q => ha (q ▸ hn)⟩
def aiEnum (t : RA) : RI := fun ρ M Q => t ρ M fun ds M1 => on1 ds fun d => onS (itemsA d M1) fun xs => Q (enumD xs) (fun M => itemsA d M = some xs) M1
theorem ai_enum {elts : List Expr} {kk : Nat} (hm : X.mg "enumerate" = none) (ha : AA X [e] t) (hg : Gl X "enumerate" := by rfl) (hs : starEach [e] X.env = [(false, eval e X.env)] := by rfl) : AI X (.Tuple elts kk tpos) (.Call (.Name "enumerate" p) [e] [] pos) (aiEnum t) :=
  pi_imp (pi_enumA hg hm ha hs) fun σ H R ⟨ρ, M, Q, hr, hv, q, k⟩ => seqA hr hv q fun vs H1 ds M1 t1 r1 v1 q1 => by
    obtain ⟨d, e0, q4⟩ := on1_ex q1
    obtain ⟨xs, h1, q5⟩ := onS_ex q4
    subst e0
    obtain ⟨v, e, rd⟩ := reps1 r1
    obtain ⟨a, ws, e1, z, hs⟩ := items_stand rd v1 h1
    rcases hs with ⟨s, hs⟩ | ⟨s, hs⟩
    · exact ⟨a, ws, by rw [e, e1], .inr ⟨s, k _ H1 _ _ M1 t1 v1 q5 (iw_enumT z hs)⟩⟩
    · exact ⟨a, ws, by rw [e, e1], .inl ⟨s, k _ H1 _ _ M1 t1 v1 q5 (iw_enum hs)⟩⟩
end
end HC
set_option maxHeartbeats 1000000
namespace HC
open PySem PySem.Spec L2 PyProof.Rows
def RowIt (k : Bool) (h : Heap) (it a : Addr) (i : Nat) : Prop := match k with | true => h.IsTupleIter it a i | false => h.IsListIter it a i
def RowAt (k : Bool) (h : Heap) (a : Addr) (items : Array Value) : Prop := match k with | true => h.IsTuple a items | false => h.IsList a items
def RowV (k : Bool) (K : PySem.W.Frag) (H : Hp) (a : Addr) (xs : List V) : Prop := match k with | true => SqT K H a xs | false => SqL K H a xs
def RowO (k : Bool) (a : Addr) : Obj := match k with
  | true => { cls := .type "tuple_iterator", data := .fields #[.ref a, .int 0 0] }
  | false => { cls := .type "list_iterator", data := .fields #[.ref a, .int 0 0] }
theorem row_draws {prog : Program} {w : World} {A : Around} (hh : A.handled = none) (k : Bool) (it a : Addr) (hne : a ≠ it) (items : Array Value) :
    Draws prog w A it [it, a] items.size (fun i v => items[i]? = some v) (fun i h => RowIt k h it a i ∧ RowAt k h a items) := by
  cases k
  · exact Draws.list hh it a hne items
  · exact Draws.tuple hh it a hne items
theorem row_begins (k : Bool) (a : Addr) (items : Array Value) : Begins (.ref a) (RowO k a) fun h => RowAt k h a items := by
  cases k
  · exact begins_list a items
  · exact begins_tuple a items
theorem RowIt.keep {k : Bool} {h h' : Heap} {it a : Addr} {i : Nat} (r : RowIt k h it a i) (q : ∀ o, h.get? it = some o → h'.get? it = some o) : RowIt k h' it a i := by
  cases k
  · exact Heap.IsListIter.at (h := h) r q
  · exact Heap.IsTupleIter.at (h := h) r q
theorem RowIt.first {k : Bool} {h : Heap} {it a : Addr} (q : h.get? it = some (RowO k a)) : RowIt k h it a 0 := by
  cases k
  · exact ⟨_, q, rfl, rfl⟩
  · exact ⟨_, q, rfl, rfl⟩
theorem RowIt.ob {k : Bool} {h : Heap} {it a : Addr} {i : Nat} (r : RowIt k h it a i) : ∃ o ar, h.get? it = some o ∧ o.data = .fields ar := by
  cases k
  · obtain ⟨o, e, _, d⟩ := r; exact ⟨o, _, e, d⟩
  · obtain ⟨o, e, _, d⟩ := r; exact ⟨o, _, e, d⟩
theorem row_inv {X : Cx} {pins : List (Addr × Obj)} {σ : L2.St} {H : Hp} {s : Shared} {a : Addr} {xs : List V} {k : Bool} (I : Inv X pins σ H s) (h : RowV k X.K H a xs) : ∃ its : List Value, Vals xs its ∧ RowAt k s.heap a its.toArray := by
  cases k
  · obtain ⟨its, r, p, _⟩ := I.list h
    exact ⟨its, r, p.isList⟩
  · obtain ⟨its, r, p, _⟩ := I.tuple h
    exact ⟨its, r, p⟩
theorem row_inj {X : Cx} {pins : List (Addr × Obj)} {σ : L2.St} {H : Hp} {s : Shared} {a : Addr} {xs ys : List V} {k : Bool} (I : Inv X pins σ H s) (h : RowV k X.K H a xs) (h' : RowV k X.K H a ys) : xs = ys := by
  cases k
  · exact I.list_inj h h'
  · exact I.tuple_inj h h'
theorem RowAt.lt {k : Bool} {h : Heap} {a : Addr} {items : Array Value} (r : RowAt k h a items) : a < h.objs.size := by
  cases k
  · obtain ⟨o, e, _⟩ := r; exact Heap.lt_size e
  · obtain ⟨o, e, _⟩ := r; exact Heap.lt_size e
abbrev zH2 (h : Heap) (o1 o2 : Obj) : Heap := (h.push o1).push o2
abbrev zH3 (h : Heap) (o1 o2 : Obj) : Heap := (zH2 h o1 o2).push { cls := .type "tuple", data := .seq #[.ref h.objs.size, .ref (h.push o1).objs.size] }
abbrev zH4 (h : Heap) (o1 o2 : Obj) : Heap := (zH3 h o1 o2).push { cls := .type "tuple", data := .seq #[.none, .none] }
abbrev zH5 (h : Heap) (o1 o2 : Obj) : Heap := (zH4 h o1 o2).push { cls := .type "zip", data := .fields #[.none, .bool false, .bool false, .ref (zH2 h o1 o2).objs.size, .ref (zH3 h o1 o2).objs.size] }
theorem meets_zip_newB {v1 v2 : Value} {o1 o2 : Obj} {P1 P2 : Heap → Prop} (B1 : Begins v1 o1 P1) (B2 : Begins v2 o2 P2) :
    Meets (Builtin.«zip.__new__» ⟨[.type "zip", v1, v2], []⟩) (fun _ R s => P1 s.heap ∧ P2 s.heap ∧
      R (.ok (.ret (.ref (zH4 s.heap o1 o2).objs.size))) { s with heap := zH5 s.heap o1 o2 }) :=
  .of_wp fun prog w A R s hyp => by
    obtain ⟨hp, g, d, tk, os⟩ := s
    obtain ⟨f1, f2, hyp⟩ := hyp
    have hsub := sub_zip
    have g1 : ∀ {A' : Around} {E : Value → Shared → Prop} {Q : Value → Shared → Prop}, Q (.ref hp.objs.size) ⟨hp.push o1, g, d, tk, os⟩ → wpAny (model prog w) A' (pyIter v1) Q E ⟨hp, g, d, tk, os⟩ :=
      fun q => B1.iter prog w _ _ ⟨hp, g, d, tk, os⟩ _ f1 q
    have g2 : ∀ {A' : Around} {E : Value → Shared → Prop} {Q : Value → Shared → Prop}, Q (.ref (hp.push o1).objs.size) ⟨(hp.push o1).push o2, g, d, tk, os⟩ → wpAny (model prog w) A' (pyIter v2) Q E ⟨hp.push o1, g, d, tk, os⟩ :=
      fun q => B2.iter prog w _ _ ⟨hp.push o1, g, d, tk, os⟩ _ (B2.keeps _ _ f2 fun b o e => Heap.get?_push_of_some _ e) q
    wp_walk using g1, g2
    exact ⟨_, rfl, hyp⟩
section
variable {prog : Program} {w : World} {A : Around} {E : Value → Shared → Prop} {s : Shared}
theorem call_zip_B {v1 v2 : Value} {o1 o2 : Obj} {P1 P2 : Heap → Prop} {Q : Value → Shared → Prop} (B1 : Begins v1 o1 P1) (B2 : Begins v2 o2 P2) (f1 : P1 s.heap) (f2 : P2 s.heap)
    (go : ∀ h', IsZip h' (s.heap.objs.size + 4) (s.heap.objs.size + 2) (s.heap.objs.size + 3) .none → IsPair h' (s.heap.objs.size + 2) (.ref s.heap.objs.size) (.ref (s.heap.objs.size + 1)) →
      IsPair h' (s.heap.objs.size + 3) .none .none → h'.get? s.heap.objs.size = some o1 → h'.get? (s.heap.objs.size + 1) = some o2 →
      (∀ c o, s.heap.get? c = some o → h'.get? c = some o) → Q (.ref (s.heap.objs.size + 4)) { s with heap := h' }) :
    wpAny (model prog w) A (call (.type "zip") [v1, v2]) Q E s := by
  refine callType_new F.called_zip (by decide) (F.typeCall_zip_2 _ _) (F.newCall_zip_2 _ _) (fun obj => F.args_object_init_3 obj _ _) F.entry_zip_new
    (meets_zip_newB B1 B2) ⟨f1, f2, ?_⟩
  have up : ∀ {h : Heap} {o' : Obj} {c : Addr} {o : Obj}, h.get? c = some o → (h.push o').get? c = some o := fun e => Heap.get?_push_of_some _ e
  have e1 : (s.heap.push o1).objs.size = s.heap.objs.size + 1 := Heap.size_push ..
  have e2 : (zH2 s.heap o1 o2).objs.size = s.heap.objs.size + 2 := (Heap.size_push ..).trans (by rw [e1])
  have e3 : (zH3 s.heap o1 o2).objs.size = s.heap.objs.size + 3 := (Heap.size_push ..).trans (by rw [e2])
  have e4 : (zH4 s.heap o1 o2).objs.size = s.heap.objs.size + 4 := (Heap.size_push ..).trans (by rw [e3])
  have a1 : (zH5 s.heap o1 o2).get? s.heap.objs.size = some o1 := up (up (up (up (Heap.get?_push_size _ B1.free))))
  have a2 : (zH5 s.heap o1 o2).get? (s.heap.push o1).objs.size = some o2 := up (up (up (Heap.get?_push_size _ B2.free)))
  have a3 : (zH5 s.heap o1 o2).get? (zH2 s.heap o1 o2).objs.size = some _ := up (up (Heap.get?_push_size _ rfl))
  have a4 : (zH5 s.heap o1 o2).get? (zH3 s.heap o1 o2).objs.size = some _ := up (Heap.get?_push_size _ rfl)
  have a5 : (zH5 s.heap o1 o2).get? (zH4 s.heap o1 o2).objs.size = some _ := Heap.get?_push_size _ rfl
  show _ ∧ _
  refine ⟨⟨_, a5, rfl⟩, ?_⟩
  rw [e1] at a2 a3
  rw [e2] at a3 a5
  rw [e3] at a4 a5
  rw [e4] at a5 ⊢
  exact go _ a5 a3 a4 a1 a2 fun c o e => up (up (up (up (up e))))
end
def ItzM (k m : Bool) (K : PySem.W.Frag) (a b : Addr) : It :=
  ⟨fun i H => ∃ (xs ys : List V) (x y : V), RowV k K H a xs ∧ RowV m K H b ys ∧ xs[i]? = some x ∧ ys[i]? = some y,
    fun i H v H' => ∃ T x y, v = .ref T ∧ H T = none ∧ H' = upd H T (.tup [x, y]) ∧ (∀ xs, RowV k K H a xs → xs[i]? = some x) ∧ ∀ ys, RowV m K H b ys → ys[i]? = some y,
    fun i H => ∃ xs ys : List V, RowV k K H a xs ∧ RowV m K H b ys ∧ i = min xs.length ys.length⟩
theorem turn_zipM {P : Program} {w : World} {K : PySem.W.Frag} {elts : List Expr} {kk : Nat} {tpos : Pos} {k m : Bool} {a b z TI TO i1 i2 : Addr} (S : ZipSep2 z TI TO i1 i2 [i1, a] [i2, b]) (na : a ≠ i1) (nb : b ≠ i2) :
    Turn P w K (.Tuple elts kk tpos) (ItzM k m K a b) [z, TI, TO, i1, i2] z (fun i h => IsZip h z TI TO .none ∧ IsPair h TI (.ref i1) (.ref i2) ∧ (∃ x y, IsPair h TO x y) ∧ RowIt k h i1 a i ∧ RowIt m h i2 b i) where
  mem := List.mem_cons_self ..
  obj := fun i h st c hc => by
    obtain ⟨r1, r2, ⟨x, y, r3⟩, t1, t2⟩ := st
    obtain ⟨o1, _, q1, d1⟩ := t1.ob
    obtain ⟨o2, _, q2, d2⟩ := t2.ob
    simp only [List.mem_cons, List.not_mem_nil, or_false] at hc
    rcases hc with rfl | rfl | rfl | rfl | rfl
    · exact ⟨_, r1, fun v e => nomatch e⟩
    · exact ⟨_, r2, fun v e => nomatch e⟩
    · exact ⟨_, r3, fun v e => nomatch e⟩
    · exact ⟨o1, q1, fun v e => by rw [d1] at e; cases e⟩
    · exact ⟨o2, q2, fun v e => by rw [d2] at e; cases e⟩
  keep := fun i h h' st kp => by
    obtain ⟨r1, r2, ⟨x, y, r3⟩, t1, t2⟩ := st
    exact ⟨kp z (by simp) _ r1, kp TI (by simp) _ r2, ⟨x, y, kp TO (by simp) _ r3⟩, t1.keep fun o e => kp i1 (by simp) o e, t2.keep fun o e => kp i2 (by simp) o e⟩
  item := by
    intro X hP hw hK hc i pins s σ H E I hf st hg
    subst hP hw hK
    obtain ⟨r1, r2, ⟨x0, y0, r3⟩, t1, t2⟩ := st
    obtain ⟨xs, ys, x, y, qa, qb, hx, hy⟩ := hg
    obtain ⟨us, va, pa⟩ := row_inv I qa
    obtain ⟨ws, vb, pb⟩ := row_inv I qb
    obtain ⟨u, hu, ru⟩ := va.get hx
    obtain ⟨v, hv, rv⟩ := vb.get hy
    have hh : X.A.in1.handled = none := I.ok.hd hc
    have lu : i < us.toArray.size := by
      have := (List.getElem?_eq_some_iff.mp hu).1
      simpa using this
    have lv : i < ws.toArray.size := by
      have := (List.getElem?_eq_some_iff.mp hv).1
      simpa using this
    refine wpAny_pyNext_zipD2_item S (row_draws hh k i1 a na us.toArray) (row_draws hh m i2 b nb ws.toArray) r1 r2 r3 ⟨t1, pa⟩ ⟨t2, pb⟩ lu lv fun x1 x2 h1 tk y1 y2 z1 p1 w1 w2 hT hsz same => ?_
    have e1 : x1 = u := by
      have e : us.toArray[i]? = some u := by simpa using hu
      rw [e] at y1
      exact (Option.some.inj y1).symm
    have e2 : x2 = v := by
      have e : ws.toArray[i]? = some v := by simpa using hv
      rw [e] at y2
      exact (Option.some.inj y2).symm
    subst e1 e2
    have lz : z < s.heap.objs.size := Heap.lt_size r1
    refine ⟨_, rfl, wpAny_letOwnedTupleGo_zip (s := { s with heap := h1, toks := tk }) z1 fun h2 z2 sb => ?_⟩
    have hT2 : h2.get? s.heap.objs.size = some { cls := .type "tuple", data := .seq #[x1, x2] } := (sb.2 _ (Nat.ne_of_gt lz)).trans hT
    have new : ObjOk X.prog X.w (upd H s.heap.objs.size (.tup [x, y])) h2 s.heap.objs.size (.tup [x, y]) :=
      ⟨show 2 ≤ sizeLine by decide, [x1, x2], .cons ru (.cons rv .nil), ⟨_, hT2, rfl, _, rfl⟩⟩
    have I1 : Inv X pins σ (upd H s.heap.objs.size (.tup [x, y])) { s with heap := h2, toks := tk } :=
      I.turnedNew (ch := [z, TI, TO, i1, i2]) (fun c o out e => by
        simp only [List.mem_cons, List.not_mem_nil, or_false, not_or] at out
        obtain ⟨c1, c2, c3, c4, c5⟩ := out
        exact (sb.2 c c1).trans (same c o c1 c3 c4 c5 e)) hf (Nat.le_refl _) new
    have sz : ∀ c, c ∈ [z, TI, TO, i1, i2] → c < s.heap.objs.size := fun c hcm => by
      obtain ⟨_, _, q1, _⟩ := t1.ob
      obtain ⟨_, _, q2, _⟩ := t2.ob
      simp only [List.mem_cons, List.not_mem_nil, or_false] at hcm
      rcases hcm with rfl | rfl | rfl | rfl | rfl
      · exact lz
      · exact Heap.lt_size r2
      · exact Heap.lt_size r3
      · exact Heap.lt_size q1
      · exact Heap.lt_size q2
    refine ⟨.ref s.heap.objs.size, _, I1, rfl, ⟨_, x, y, rfl, I.hok.fresh (Nat.le_refl _), rfl, fun l hl => by rw [row_inj I hl qa]; exact hx, fun l hl => by rw [row_inj I hl qb]; exact hy⟩,
      ⟨z2, (sb.2 _ S.TIz).trans (same _ _ S.TIz S.TITO S.TIi1 S.TIi2 r2), ⟨x1, x2, (sb.2 _ S.TOz).trans p1⟩, w1.1.keep fun o e => (sb.2 _ S.zi1.symm).trans e, w2.1.keep fun o e => (sb.2 _ S.zi2.symm).trans e⟩, fun c hcm => ?_⟩
    rw [upd_ne (Nat.ne_of_lt (sz c hcm))]
    exact (hf c hcm).1
  done := by
    intro X hP hw hK hc i pins s σ H E I hf st hg
    subst hP hw hK
    obtain ⟨r1, r2, ⟨x0, y0, r3⟩, t1, t2⟩ := st
    obtain ⟨xs, ys, qa, qb, hi⟩ := hg
    obtain ⟨us, va, pa⟩ := row_inv I qa
    obtain ⟨ws, vb, pb⟩ := row_inv I qb
    have hh : X.A.in1.handled = none := I.ok.hd hc
    have l1 : us.toArray.size = xs.length := by rw [List.size_toArray]; exact va.length.symm
    have l2 : ws.toArray.size = ys.length := by rw [List.size_toArray]; exact vb.length.symm
    refine wpAny_pyNext_zipD2_end S (row_draws hh k i1 a na us.toArray) (row_draws hh m i2 b nb ws.toArray) r1 r2 r3 ⟨t1, pa⟩ ⟨t2, pb⟩ (by omega) (by omega) (by omega) fun h1 tk same => ⟨rfl, I.turnedL (t' := tk) (ch := [z, TI, TO, i1, i2]) (fun c o out e => ?_) hf⟩
    simp only [List.mem_cons, List.not_mem_nil, or_false, not_or] at out
    obtain ⟨c1, c2, c3, c4, c5⟩ := out
    exact same c o c1 c3 c4 c5 e
  self := fun A i s Q E st h => wpAny_pyIter_zip st.1 h
def iZipM (K : PySem.W.Frag) (ta : TA) : TI := fun σ H R => ta σ H fun vs H1 => ∃ a b xs ys k m, vs = [.ref a, .ref b] ∧ RowV k K H1 a xs ∧ RowV m K H1 b ys ∧ R (ItzM k m K a b) H1
theorem off {n i j : Nat} (h : i ≠ j) : n + i ≠ n + j := fun e => h (Nat.add_left_cancel e)
theorem offL {n i b : Nat} (h : b < n) : n + i ≠ b := fun e => Nat.lt_irrefl n (Nat.lt_of_le_of_lt (Nat.le_add_right n i) (e ▸ h))
theorem out2 {x y z : Nat} (h : x ≠ y) (k : x ≠ z) : x ∉ [y, z] := fun e => by
  rcases List.mem_cons.mp e with e | e
  · exact h e
  · exact k (List.mem_singleton.mp e)
theorem sepN {n a b : Nat} (ha : a < n) (hb : b < n) : ZipSep2 (n + 4) (n + 2) (n + 3) n (n + 1) [n, a] [n + 1, b] where
  TIz := off (by decide)
  TOz := off (by decide)
  TITO := off (by decide)
  TIi1 := off (j := 0) (by decide)
  mem1 := List.mem_cons_self ..
  zf1 := out2 (off (j := 0) (by decide)) (offL ha)
  Tf1 := out2 (off (j := 0) (by decide)) (offL ha)
  TIi2 := off (by decide)
  mem2 := List.mem_cons_self ..
  zf2 := out2 (off (by decide)) (offL hb)
  Tf2 := out2 (off (by decide)) (offL hb)
  sep1_2 := out2 (off (i := 0) (by decide)) (offL (i := 0) hb)
  sep2_1 := out2 (off (j := 0) (by decide)) (offL ha)
theorem pi_zipM {X : Cx} {e e2 : Expr} {ta : TA} {p pos tpos : Pos} {elts : List Expr} {kk : Nat} (hg : Gl X "zip") (hm : X.mg "zip" = none) (ha : PA X [e, e2] ta)
    (hs : starEach [e, e2] X.env = (false, eval e X.env) :: starEach [e2] X.env := by rfl) (hpl : (backTo pos (starEach [e2] X.env)).any (·.1) = false := by rfl) :
    PI X (.Tuple elts kk tpos) (.Call (.Name "zip" p) [e, e2] [] pos) (iZipM X.K ta) := by
  refine ⟨fun pins s σ H R I hyp => ?_⟩
  refine Call_ (ld_blt I hg hm boot_zip (callWith_type1 (thn (ha.run pos pins s σ H _ I hyp) fun us s1 got => ?_) hs hpl))
  obtain ⟨vs, H1, I1, rel, a, b, xs, ys, k, m, rfl, qa, qb, q⟩ := got
  cases rel with
  | cons r rr =>
  cases rr with
  | cons r' rr =>
  cases rr
  cases r
  cases r'
  obtain ⟨us1, va, pa⟩ := row_inv I1 qa
  obtain ⟨us2, vb, pb⟩ := row_inv I1 qb
  refine call_zip_B (row_begins k a us1.toArray) (row_begins m b us2.toArray) pa pb fun h' z1 z2 z3 z4 z5 same => wpAny_pyIter_zip z1 ?_
  have I2 : Inv X pins σ H1 { s1 with heap := h' } := I1.kept (t' := s1.toks) same
  have free : ∀ c, c ∈ [s1.heap.objs.size + 4, s1.heap.objs.size + 2, s1.heap.objs.size + 3, s1.heap.objs.size, s1.heap.objs.size + 1] → FpOk X pins H1 c := fun c hcm => by
    have up : s1.heap.objs.size ≤ c := by
      simp only [List.mem_cons, List.not_mem_nil, or_false] at hcm
      rcases hcm with rfl | rfl | rfl | rfl | rfl
      · exact Nat.le_add_right _ _
      · exact Nat.le_add_right _ _
      · exact Nat.le_add_right _ _
      · exact Nat.le_refl _
      · exact Nat.le_add_right _ _
    exact I1.fpOk up (I1.hok.fresh up)
  have la := pa.lt
  have lb := pb.lt
  exact ⟨_, _, _, _, H1, rfl, I2, turn_zipM (sepN la lb) (Nat.ne_of_lt la) (Nat.ne_of_lt (Nat.lt_succ_of_lt lb)), ⟨z1, z2, ⟨_, _, z3⟩, RowIt.first z4, RowIt.first z5⟩, free, q⟩
section
variable {X : Cx} {a b : Expr} {t : RA} {K : PySem.W.Frag} {p pos tpos : Pos}
theorem iw_zipM {k m : Bool} {a b : Addr} {xs ys : List Dv} {keep : Ms → Prop} {H1 : Hp} (hyp : ∀ H M, Tp K H1 H → View K M H → keep M → (∃ ws, RowV k K H a ws ∧ Reps K H xs ws) ∧ ∃ ws, RowV m K H b ws ∧ Reps K H ys ws) : IW K (ItzM k m K a b) (zipD xs ys) keep H1 where
  go := fun i H M hi t v kp => by
    rw [zipD_len] at hi
    obtain ⟨⟨ws, s, z⟩, us, s2, z2⟩ := hyp H M t v kp
    obtain ⟨w, hw, _⟩ := z.get (i := i) (List.getElem?_eq_getElem (by omega))
    obtain ⟨u, hu, _⟩ := z2.get (i := i) (List.getElem?_eq_getElem (by omega))
    exact ⟨ws, us, w, u, s, s2, hw, hu⟩
  stop := fun H M t v kp => by
    obtain ⟨⟨ws, s, z⟩, us, s2, z2⟩ := hyp H M t v kp
    exact ⟨ws, us, s, s2, by rw [zipD_len, ← z.length, ← z2.length]⟩
  yld := fun i H M x H' hi t v kp y => by
    rw [zipD_len] at hi
    obtain ⟨⟨ws, s, z⟩, us, s2, z2⟩ := hyp H M t v kp
    obtain ⟨w, hw, rw'⟩ := z.get (i := i) (List.getElem?_eq_getElem (by omega))
    obtain ⟨u, hu, ru⟩ := z2.get (i := i) (List.getElem?_eq_getElem (by omega))
    obtain ⟨T, x', z', e, hn, e2, y2, y3⟩ := y
    subst e e2
    have q1 := y2 ws s
    have q2 := y3 us s2
    rw [hw] at q1
    rw [hu] at q2
    cases q1
    cases q2
    exact ⟨_, zipD_get (List.getElem?_eq_getElem (by omega)) (List.getElem?_eq_getElem (by omega)), Tp.new hn, rep_pair hn rw' ru, v.new hn, fun a ha => upd_ne fun q => ha (q ▸ hn)⟩
theorem row_stand {H1 : Hp} {M1 : Ms} {d : Dv} {v : V} {ds : List Dv} (r : Rep K H1 d v) (hv : View K M1 H1) (h : itemsA d M1 = some ds) :
    ∃ k a vs, v = .ref a ∧ RowV k K H1 a vs ∧ ∀ H M, Tp K H1 H → View K M H → itemsA d M = some ds → ∃ ws, RowV k K H a ws ∧ Reps K H ds ws := by
  obtain ⟨a, vs, e, z, hs⟩ := items_stand r hv h
  rcases hs with ⟨s, hs⟩ | ⟨s, hs⟩
  · exact ⟨true, a, vs, e, s, fun H M t _ _ => ⟨vs, hs H t, z.mono t⟩⟩
  · exact ⟨false, a, vs, e, s, fun H M t w kp => hs H M t w kp⟩
def aiZipX (t : RA) : RI := fun ρ M Q => t ρ M fun ds M1 => on2 ds fun d f => onS (itemsA d M1) fun xs => onS (itemsA f M1) fun ys => Q (zipD xs ys) (fun M => itemsA d M = some xs ∧ itemsA f M = some ys) M1
theorem ai_zipX {elts : List Expr} {kk : Nat} (hm : X.mg "zip" = none) (ha : AA X [a, b] t) (hg : Gl X "zip" := by rfl) (hs : starEach [a, b] X.env = (false, eval a X.env) :: starEach [b] X.env := by rfl) (hpl : (backTo pos (starEach [b] X.env)).any (·.1) = false := by rfl) : AI X (.Tuple elts kk tpos) (.Call (.Name "zip" p) [a, b] [] pos) (aiZipX t) :=
  pi_imp (pi_zipM hg hm ha hs hpl) fun σ H R ⟨ρ, M, Q, hr, hv, q, k⟩ => seqA hr hv q fun vs H1 ds M1 t1 r1 v1 q1 => by
    obtain ⟨d, f, e0, q2⟩ := on2_ex q1
    obtain ⟨xs, h1, q3⟩ := onS_ex q2
    obtain ⟨ys, h2, q4⟩ := onS_ex q3
    subst e0
    obtain ⟨v, w, e, rd, rd2⟩ := reps2 r1
    obtain ⟨k1, a, us, e1, s, hs⟩ := row_stand rd v1 h1
    obtain ⟨k2, b, ws, e2, s2, hs2⟩ := row_stand rd2 v1 h2
    exact ⟨a, b, us, ws, k1, k2, by rw [e, e1, e2], s, s2, k _ H1 _ _ M1 t1 v1 q4 (iw_zipM fun H M t v kp => ⟨hs H M t v kp.1, hs2 H M t v kp.2⟩)⟩
end
end HC
set_option maxHeartbeats 4000000
namespace HC
open PySem L2 PyProof.Rows
section
variable {X : Cx} {a b c e o tg : Expr} {ta tb tc te to : RE} {pos apos cpos p tpos : Pos} {K : PySem.W.Frag} {es : List Expr} {t : RA}
abbrev ASp := List Dv → Ms → DK → Prop
def cSp (K : PySem.W.Frag) (asp : ASp) : Sp := fun vs H Q' _ => ∃ ds M Q, Reps K H ds vs ∧ View K M H ∧ asp ds M Q ∧ LkV K H Q Q'
abbrev FnA (P : Program) (w : World) (K : PySem.W.Frag) (mg : Str → Option Value) (base : Heap) (k : Nat) (f : Addr) (fd : FuncData) (ps : List Str) (asp : ASp) : Prop := FnOk P w K mg base CX0 k f fd ps (cSp K asp)
def aCall (asp : ASp) (t : RA) : RE := fun ρ M Q => t ρ M fun ds M1 => asp ds M1 Q
theorem acall_imp {asp : ASp} : ∀ σ H Q, cE K (aCall asp t) σ H Q → tCall (cSp K asp) [] E0 (cA K t) σ H Q := fun σ H Q' ⟨ρ, M, Q, hr, hv, q, k⟩ => seqA hr hv q fun vs H1 ds M1 t1 r1 v1 q1 =>
  ⟨ds, M1, Q, by rw [List.append_nil]; exact r1, v1, q1, k.up t1⟩
variable {x : Str} {f : Addr} {fd : FuncData} {ps : List Str} {asp : ASp} {k : Nat}
theorem ae_call (F : FnA X.prog X.w X.K X.mg X.base k f fd ps asp) (hr : Room k X.A) (hm : X.mg x = some (.ref f)) (hk : PySem.W.keepIn X.K (.ref f) = true) (hb : Binds X.K fd ps []) (ha : AA X (e :: es) t) (hg : Gl X x := by rfl)
    (hdb : (x == ("__debug__" : Str)) = false := by decide) (he : starEach (e :: es) X.env = (false, eval e X.env) :: starEach es X.env := by rfl) (hpl : (backTo pos (starEach es X.env)).any (·.1) = false := by rfl) : AE X (.Call (.Name x p) (e :: es) [] pos) (aCall asp t) :=
  pe_imp (pe_call F hr hg hm hk hb .nil pass0 ha hdb he hpl) acall_imp
abbrev BX (P : Program) (w : World) (K : PySem.W.Frag) (mg : Str → Option Value) (base : Heap) (N : List Str) (qual : Str) (st : Stmt) (f : Addr) (cdv : Value) (A : Around) (outer : List Env) (s : Shared) (H : Hp) (E : XK) : Cx := (cxOf CX0 P w K mg base N qual (defScope st) f cdv A outer s H E).nox
def retD (Q : DK) : Ends' := { nx := fun _ M' => ∃ M'', Sub M'' M' ∧ Q .non M'', rt := fun d M' => ∃ M'', Sub M'' M' ∧ Q d M'' }
theorem fnA {P : Program} {w : World} {mg : Str → Option Value} {base : Heap} {qual : Str} {st : Stmt} {N : List Str} {t : RS} (F : Fun K x qual st f fd) (S : FnScope N ps (defScope st)) (len : ∀ ds M Q, asp ds M Q → ds.length = ps.length)
    (body : ∀ (cdv : Value) (A : Around) (outer : List Env) (s : Shared) (H : Hp) (E : XK), Room k (A.deeper (envOfC qual (defScope st) s.heap.objs.size f cdv)) → ASs (BX P w K mg base N qual st f cdv A outer s H E) (defBody st) t)
    (spec : ∀ ds M Q, asp ds M Q → t (retD Q) (startA N.length ds) M) : FnA P w K mg base (k + 1) f fd ps asp := by
  refine F.ok S (fun vs H Q' E ⟨ds, M, Q, r, _, q, _⟩ => by rw [← r.length]; exact len ds M Q q) fun cdv A outer s H vs Q' E hr ⟨ds, M, Q, r, hv, q, kk⟩ => ?_
  refine ⟨_, body cdv A outer s H E hr, startA N.length ds, M, retD Q, repE_start r, hv, spec ds M Q q, ?_, ?_, ?_, ?_⟩
  · rintro σ H' ρ M' tp _ v ⟨M'', sb, q'⟩
    exact kk _ _ _ M'' tp rep_non (v.sub sb) q'
  · rintro v H' d M' tp rd vv ⟨M'', sb, q'⟩
    exact kk _ _ _ M'' tp rd (vv.sub sb) q'
  · rintro _ _ _ _ _ _ _ h
    exact h.elim
  · rintro _ _ _ _ _ _ _ h
    exact h.elim
end
end HC
namespace HC
open PySem L2 PyProof.Rows
section
variable {X : Cx} {a b c e : Expr} {ta tb tc te : RE} {pos : Pos}
theorem ae_chain2 {op op' : CmpOp} {r r' : R2} {ar ar' : AR2} (ho : OpR X (compareOp op) r) (ho' : OpR X (compareOp op') r') (h : Ab2 X.K r ar) (h' : Ab2 X.K r' ar') (ha : AE X a ta) (hb : AE X b tb) (hc : AE X c tc) (hm : lastMarks [op, op'] [b, c] = false := by with_unfolding_all rfl) : AE X (.Compare a [op, op'] [b, c] pos) (aChain ar ar' ta tb tc) :=
  pe_imp (pe_chain ho ho' ha hb hc hm) (chain_imp h h')
theorem at_chain2 {op op' : CmpOp} {r r' : R2} {ar ar' : AR2} (ho : OpR X (compareOp op) r) (ho' : OpR X (compareOp op') r') (h : Ab2 X.K r ar) (h' : Ab2 X.K r' ar') (ha : AE X a ta) (hb : AE X b tb) (hc : AE X c tc) (hm : lastMarks [op, op'] [b, c] = false := by with_unfolding_all rfl) : AT X (.Compare a [op, op'] [b, c] pos) (aB (aChain ar ar' ta tb tc)) :=
  pt_imp (pt_chain ho ho' ha hb hc hm) fun σ H Q' h0 => by
    obtain ⟨ρ, M, Q, hr, hv, q, k⟩ := h0
    exact chain_imp h h' σ H _ ⟨ρ, M, _, hr, hv, q, fun v H1 d M1 t1 r1 v1 q1 => by
      obtain ⟨b, e, q1⟩ := onB_ex q1
      exact ⟨b, by subst e; exact rep_bl_inv r1, k b H1 M1 t1 v1 q1⟩⟩
theorem pgt_name (i : Nat) {x : Str} (hN : X.N.Nodup) (hi : X.N[i]? = some x := by rfl) (hx : Loc X.env.scope x := by first | exact .inl rfl | exact .inr rfl) (hf : X.fn x = true ∨ X.env.scope.names.lookup x = some .local := by first | exact .inr rfl | exact .inl rfl) : PG X (.Name x pos) (Tg.g X.K (.nm i)) := by
  have h := pg_name (pos := pos) hN hi hx hf
  have e : Tg.g X.K (.nm i) = gName i := by simp only [Tg.g]
  rw [e]; exact h
def PGTs (X : Cx) (es : List Expr) (ts : List Tg) : Prop := PGs X es (Tg.gs X.K ts) ∧ (assignEach es X.env).length = ts.length
theorem pgts_nil : PGTs X [] [] := by
  refine ⟨?_, rfl⟩
  have e : Tg.gs X.K [] = gNil := by simp only [Tg.gs]
  rw [e]; exact pgs_nil
theorem pgts_cons {es : List Expr} {t : Tg} {ts : List Tg} (h : PG X e (Tg.g X.K t)) (hs : PGTs X es ts) (he : (assignEach (e :: es) X.env).map (·.2) = assign e X.env :: (assignEach es X.env).map (·.2) := by rfl) : PGTs X (e :: es) (t :: ts) := by
  refine ⟨?_, ?_⟩
  · have q : Tg.gs X.K (t :: ts) = gCons (Tg.g X.K t) (Tg.gs X.K ts) := by simp only [Tg.gs]
    rw [q]; exact pgs_cons h hs.1 he
  · have := congrArg List.length he
    simp only [List.length_map, List.length_cons] at this
    rw [this, hs.2]; rfl
theorem pgt_tup {es : List Expr} {ts : List Tg} {k : Nat} (hc : X.calm = true) (h : PGTs X es ts) (hst : (assignEach es X.env).findIdx? (·.1) = none := by rfl) : PG X (.Tuple es k pos) (Tg.g X.K (.tp ts)) := by
  have e : Tg.g X.K (.tp ts) = fun v σ H Q => gTup X.K ts.length (Tg.gs X.K ts) v σ H Q ∨ gLst X.K ts.length (Tg.gs X.K ts) v σ H Q := by simp only [Tg.g]
  rw [e]
  exact pg_or (pg_tup hc h.1 h.2 hst) (pg_lst hc h.1 h.2 hst)
end
end HC
namespace HC
open PySem L2 PyProof.Rows
theorem law_end {K : PySem.W.Frag} {H : Hp} {a : Addr} {ns : List Int} {sp : ASp} {E : XK} (hl : ns.length ≤ 63) (hO : Only H) (hS : SqL K H a (ns.map V.int)) (h : ∀ ns : List Int, ns.length ≤ 63 → sp [.rol (ns.map Dv.int)] (fun _ => none) (fun d _ => d = .bl true)) :
    cSp K sp [.ref a] H (fun v _ => v = .bl true) E := by
  have hF : SqF K H a (ns.map V.int) := by
    rcases hS with (q | ⟨o, q⟩) | q
    · rcases hO a with z | ⟨o, xs, z⟩
      · rw [q] at z; cases z
      · rw [q] at z; cases z
    · exact .inl ⟨o, q⟩
    · exact .inr (.inr q)
  refine ⟨[.rol (ns.map Dv.int)], fun _ => none, fun d _ => d = .bl true, Reps.cons ?_ Reps.nil, (fun a c e => nomatch e : View K (fun _ => none) H), h ns hl, ?_⟩
  · simp only [Rep]
    exact ⟨a, _, rfl, hF, Reps.of_ints ns⟩
  · rintro v H' d M' _ r _ rfl
    exact rep_bl_inv r
end HC
namespace HC
open PySem L2
section
variable {M : Ms} {p : Addr} {xs : List Dv}
theorem lenA_l (h : M p = some (.lst xs)) : lenA (.ref p) M = some xs.length := by simp [lenA, itemsA, h]
theorem itemsA_l (h : M p = some (.lst xs)) : itemsA (.ref p) M = some xs := by simp [itemsA, h]
theorem lstA_l (h : M p = some (.lst xs)) : lstA (.ref p) M = some xs := by simp [lstA, h]
theorem lstC_l (h : M p = some (.lst xs)) : lstC (M p) = some xs := by simp [lstC, h]
theorem itemsA_r : itemsA (.ref p) M = lstC (M p) := by
  simp only [itemsA, lstC] <;> (cases M p with
    | none => rfl
    | some c => cases c <;> rfl)
theorem lenA_r : lenA (.ref p) M = (lstC (M p)).map List.length := by simp only [lenA, itemsA_r]
theorem lstA_r : lstA (.ref p) M = lstC (M p) := itemsA_r
theorem lstC_s : lstC (some (.lst xs)) = some xs := rfl
theorem tyM_list (h : M p = some (.lst xs)) : tyM "list" (.ref p) M := by simp [tyM, h]
theorem retEnd {Q : DK} {d : Dv} {M : Ms} (h : Q d M) : (retD Q).rt d M := ⟨M, Sub.refl M, h⟩
theorem retSub {Q : DK} {d : Dv} {M M' : Ms} (s : Sub M M') (h : Q d M) : (retD Q).rt d M' := ⟨M, s, h⟩
theorem atI_0 {α : Type} (x : α) (xs : List α) : atI (x :: xs) 0 = some x := by simp [atI, ixN]
theorem ixN_0 (n : Nat) (h : 0 < n) : ixN n 0 = some 0 := by simp [ixN, h]
theorem atI_nat {α : Type} {xs : List α} {i : Nat} {x : α} (h : xs[i]? = some x) : atI xs (i : Int) = some x := by
  have hl := (List.getElem?_eq_some_iff.mp h).1
  have he : xs[i] = x := (List.getElem?_eq_some_iff.mp h).2
  simp [atI, ixN, hl, he]
theorem ixN_nat {n i : Nat} (h : i < n) : ixN n (i : Int) = some i := by simp [ixN, h]
end
theorem dec_T {p : Prop} {inst : Decidable p} (h : p) : @decide p inst = true := decide_eq_true h
theorem dec_F {p : Prop} {inst : Decidable p} (h : ¬ p) : @decide p inst = false := decide_eq_false h
theorem lt_line {n : Nat} (h : n < 1000000) : n < sizeLine := Nat.lt_trans h (by decide)
theorem le_line {n : Nat} (h : n ≤ 1000000) : n ≤ sizeLine := Nat.le_trans h (by decide)
abbrev dn (n : Nat) : Dv := .int (n : Int)
section
variable {M : Ms} {D p : Addr} {ρ : Env'} {keep : Ms → Prop} {tg : Tg} {own : List Nat} {tt : RT} {te : RE} {Q : Ms → Prop} {N : Ms → Prop}
theorem lcW_inv {ds : List Dv} (P : Nat → Ms → Prop) (h0 : P 0 M) (hk : ∀ i M, i ≤ ds.length → P i M → keep M) (hs : ∀ i d M, ds[i]? = some d → P i M → lcT tg own tt te ρ D d (P (i + 1)) M) (hd : ∀ M, P ds.length M → Q M) : lcW keep tg own tt te ρ D Q ds M := by
  have main : ∀ (n i : Nat), i + n = ds.length → ∀ M, P i M → lcW keep tg own tt te ρ D Q (ds.drop i) M := by
    intro n
    induction n with
    | zero =>
      intro i hi M p
      have e : i = ds.length := by omega
      subst e
      rw [List.drop_length, lcW_eqn]
      exact ⟨hk _ _ (Nat.le_refl _) p, hd _ p⟩
    | succ n ih =>
      intro i hi M p
      have hlt : i < ds.length := by omega
      rw [drop_cons (List.getElem?_eq_getElem hlt), lcW_eqc]
      exact ⟨hk _ _ (by omega) p, P (i + 1), fun M1 p1 => ih (i + 1) (by omega) M1 p1, hs i _ M (List.getElem?_eq_getElem hlt) p⟩
  simpa using main ds.length 0 (by omega) M h0
theorem rangeA_get {lo : Int} {n i : Nat} {d : Dv} (h : (rangeA lo n)[i]? = some d) : i < n ∧ d = .int (lo + (i : Int)) := by
  unfold rangeA at h
  rw [List.getElem?_map] at h
  by_cases hi : i < n
  · rw [List.getElem?_range hi] at h
    simp at h
    exact ⟨hi, h.symm⟩
  · rw [List.getElem?_eq_none (by simpa using hi)] at h
    cases h
theorem rangeA_len {lo : Int} {n : Nat} : (rangeA lo n).length = n := by simp [rangeA]
theorem enumD_get' {ds : List Dv} {i : Nat} {d : Dv} (h : (enumD ds)[i]? = some d) : ∃ f, ds[i]? = some f ∧ d = pairD (dn i) f := by
  have hi := (List.getElem?_eq_some_iff.mp h).1
  rw [enumD_len] at hi
  have := enumD_get (List.getElem?_eq_getElem hi)
  rw [this] at h
  exact ⟨_, List.getElem?_eq_getElem hi, (Option.some.inj h).symm⟩
theorem atI_some {α : Type} {xs : List α} {v : Int} (h0 : 0 ≤ v) (h1 : v < xs.length) : ∃ d, d ∈ xs ∧ atI xs v = some d := by
  obtain ⟨n, rfl⟩ := Int.eq_ofNat_of_zero_le h0
  have hn : n < xs.length := by omega
  exact ⟨xs[n], List.getElem_mem hn, atI_nat (List.getElem?_eq_getElem hn)⟩
end
theorem mup_none {M : Ms} {a q : Addr} {c : Cell} (h : mup M a c q = none) : q ≠ a ∧ M q = none := by
  by_cases e : q = a
  · subst e; rw [mup_same] at h; cases h
  · rw [mup_ne e] at h; exact ⟨e, h⟩
theorem wk_of {N : Env' → Ms → Prop} {ρ : Env'} {M : Ms} (h : N ρ M) : wk N ρ M := ⟨ρ, M, SubE.refl ρ, Sub.refl M, h⟩
def PotAt (M0 : Ms) (p : Addr) (pot : List Int) (M' : Ms) : Prop := M' p = some (.lst (pot.map Dv.int)) ∧ ∀ c, Sub (mup M0 p c) (mup M' p c)
theorem PotAt.first {M0 : Ms} {p : Addr} {pot : List Int} : PotAt M0 p pot (mup M0 p (.lst (pot.map Dv.int))) := ⟨mup_same, fun c => by rw [mup_mup]; exact Sub.refl _⟩
theorem PotAt.sub {M0 M1 M2 : Ms} {p : Addr} {pot : List Int} (h : PotAt M0 p pot M1) (s : Sub M1 M2) : PotAt M0 p pot M2 :=
  ⟨s p _ h.1, fun c => (h.2 c).trans (Sub.both s)⟩
theorem PotAt.new {M0 M1 : Ms} {p q : Addr} {pot : List Int} {l : Cell} (h : PotAt M0 p pot M1) (hq : M1 q = none) : PotAt M0 p pot (mup M1 q l) := h.sub (Sub.new hq)
theorem PotAt.put {M0 M1 : Ms} {p : Addr} {pot pot2 : List Int} (h : PotAt M0 p pot M1) : PotAt M0 p pot2 (mup M1 p (.lst (pot2.map Dv.int))) :=
  ⟨mup_same, fun c => by rw [mup_mup]; exact h.2 c⟩
theorem PotAt.fin {M0 M1 : Ms} {p : Addr} {pot : List Int} (h : PotAt M0 p pot M1) : Sub (mup M0 p (.lst (pot.map Dv.int))) M1 := by
  have := h.2 (.lst (pot.map Dv.int))
  rw [mup_self h.1] at this
  exact this
end HC
set_option maxHeartbeats 1000000
namespace HC
open PySem L2 PyProof.Rows
section
variable {X : Cx} {pos : Pos} {K : PySem.W.Frag}
def aPairs : List (RE × RE) → Env' → Ms → (List (Dv × Dv) → Ms → Prop) → Prop
  | [], _, M, Q => Q [] M
  | (tk, tv) :: r, ρ, M, Q => tk ρ M fun x M1 => tv ρ M1 fun y M2 => aPairs r ρ M2 fun ps M3 => Q ((x, y) :: ps) M3
def keysP : List (Dv × Dv) → Option (List (Key × Dv))
  | [] => some []
  | (x, y) :: r => (keyD x).bind fun k => (keysP r).map fun z => (k, y) :: z
def mergeA (kds more : List (Key × Dv)) : List (Key × Dv) := more.foldl (fun acc kv => putA acc kv.1 kv.2) kds
def aDisp (ts : List (RE × RE)) : RE := fun ρ M Q => ∀ p, M p = none → aPairs ts ρ (mup M p (.dic [])) fun ps M2 => M2 p = some (.dic []) ∧ onS (keysP ps) fun kds => kds.length ≤ 15 ∧ Q (.ref p) (mup M2 p (.dic (mergeA [] kds)))
def ADs (X : Cx) (pos : Pos) (keys : List (Option Expr)) (values : List Expr) (ts : List (RE × RE)) : Prop := PPs X pos keys values (ts.map fun z => (cE X.K z.1, cE X.K z.2))
theorem app_nil : ADs X pos [] [] [] := pps_nil
theorem app_cons {k v : Expr} {ks : List (Option Expr)} {vs : List Expr} {tk tv : RE} {ts : List (RE × RE)} (hk : AE X k tk) (hv : AE X v tv) (hr : ADs X pos ks vs ts) : ADs X pos (some k :: ks) (v :: vs) ((tk, tv) :: ts) := pps_cons hk hv hr
abbrev RP (K : PySem.W.Frag) (H : Hp) : List (Dv × Dv) → List (V × V) → Prop := Paired fun p q => Rep K H p.1 q.1 ∧ Rep K H p.2 q.2
theorem pairs_ok : ∀ {ts : List (RE × RE)} {ρ : Env'} {σ : L2.St} {M : Ms} {H : Hp} {Q : List (Dv × Dv) → Ms → Prop} {Q' : List (V × V) → Hp → Prop}, RepE K H ρ σ → View K M H → aPairs ts ρ M Q →
    (∀ ps H' dps M', Tp K H H' → RP K H' dps ps → View K M' H' → Q dps M' → Q' ps H') → tPairs (ts.map fun z => (cE K z.1, cE K z.2)) σ H Q'
  | [], _, _, _, H, _, _, _, hv, q, k => k [] H [] _ (Tp.refl H) .nil hv q
  | (tk, tv) :: ts, _, _, _, _, _, _, hr, hv, q, k => seqE hr hv q fun x H1 dx M1 t1 r1 v1 q1 => seqE (hr.mono t1) v1 q1 fun y H2 dy M2 t2 r2 v2 q2 =>
    pairs_ok (hr.mono (t1.trans t2)) v2 q2 fun ps H3 dps M3 t3 rp v3 q3 => k _ H3 ((dx, dy) :: dps) M3 ((t1.trans t2).trans t3) (.cons ⟨r1.mono (t2.trans t3), r2.mono t3⟩ rp) v3 q3
theorem keysP_ok {H : Hp} : ∀ {dps : List (Dv × Dv)} {ps : List (V × V)} {kds : List (Key × Dv)}, RP K H dps ps → keysP dps = some kds → ∃ kvs : List (Key × V), ps = kvs.map (fun kv => (kV kv.1, kv.2)) ∧ KP K H Key kds kvs
  | [], _, _, r, h => by cases r; cases h; exact ⟨[], rfl, .nil⟩
  | (x, y) :: dps, _, kds, r, h => by
    cases r with
    | @cons a b as bs r1 r2 =>
    obtain ⟨v, w⟩ := b
    rw [keysP] at h
    cases e : keyD x with
    | none => rw [e] at h; cases h
    | some kk =>
      rw [e] at h
      cases e2 : keysP dps with
      | none => rw [e2] at h; cases h
      | some z =>
        rw [e2] at h
        cases h
        obtain ⟨kvs, e3, r3⟩ := keysP_ok r2 e2
        have e4 : v = kV kk := keyD_ok r1.1 e
        exact ⟨(kk, w) :: kvs, by rw [e3, e4]; rfl, .cons ⟨rfl, r1.2⟩ r3⟩
theorem merge_ok {H : Hp} : ∀ {kds : List (Key × Dv)} {kvs : List (Key × V)} {k0 : List (Key × Dv)} {v0 : List (Key × V)}, KP K H Key kds kvs → KP K H Key k0 v0 → KP K H Key (mergeA k0 kds) (mergeK v0 kvs)
  | _, _, _, _, .nil, z => z
  | (k1, d1) :: kds, (k2, v1) :: kvs, k0, v0, .cons ⟨e, r⟩ t, z => by
    have e' : k1 = k2 := e
    subst e'
    exact merge_ok (k0 := putA k0 k1 d1) (v0 := putK v0 k1 v1) t (kp_put r z)
theorem ae_disp {keys : List (Option Expr)} {values : List Expr} {ts : List (RE × RE)} (h : ADs X pos keys values ts) (hall : keys.all (·.isSome) = true) (hl : keys.length = values.length) (h0 : keys ≠ [])
    (h15 : keys.length ≤ 15) : AE X (.Dict keys values pos) (aDisp ts) :=
  pe_imp (pe_disp h hall hl h0 h15) fun σ H Q' ⟨ρ, M, Q, hr, hv, q, k⟩ p hp => by
    have t0 : Tp X.K H (upd H p (.dK [])) := Tp.new hp
    have v0 : View X.K (mup M p (.dic [])) (upd H p (.dK [])) := hv.put (c := .dic []) (by rw [hp]; trivial) ⟨[], upd_same, .nil⟩
    refine pairs_ok (hr.mono t0) v0 (q p (hv.free hp)) fun ps H2 dps M2 t2 rp v2 q2 => ?_
    obtain ⟨e, q3⟩ := q2
    obtain ⟨kds, ek, hlen, q4⟩ := onS_ex q3
    obtain ⟨kvs0, eh, z0⟩ := v2 _ _ e
    cases z0
    obtain ⟨kvs, ep, zk⟩ := keysP_ok rp ek
    have tp : Tp X.K H2 (upd H2 p (.dK (mergeK [] kvs))) := Tp.put (v2.soft e)
    exact ⟨eh, kvs, ep, by rw [← kp_len zk]; exact hlen, k _ _ _ _ ((t0.trans t2).trans tp) rep_ref (v2.put (c := .dic (mergeA [] kds)) (v2.soft e) ⟨_, upd_same, kp_mono (merge_ok zk .nil) tp⟩) q4⟩
end
end HC
set_option maxHeartbeats 1000000
namespace HC
open PySem L2 PyProof.Rows
theorem onIf_decT {c A B : Prop} {inst : Decidable c} (h : c) (q : A) : onIf (@decide c inst) A B := by rw [decide_eq_true h]; exact q
theorem onIf_decF {c A B : Prop} {inst : Decidable c} (h : ¬ c) (q : B) : onIf (@decide c inst) A B := by rw [decide_eq_false h]; exact q
theorem onIf_ndecT {c A B : Prop} {inst : Decidable c} (h : ¬ c) (q : A) : onIf (!@decide c inst) A B := by rw [decide_eq_false h]; exact q
theorem onIf_ndecF {c A B : Prop} {inst : Decidable c} (h : c) (q : B) : onIf (!@decide c inst) A B := by rw [decide_eq_true h]; exact q
theorem look_new {M : Ms} {p r : Addr} {c x : Cell} (h : M p = some c) (hr : M r = none) : mup M r x p = some c := by rw [mup_ne (ne_of_new h hr)]; exact h
theorem CMul_l {i j : Int} (h : -18446744073709551616 < i ∧ i < 18446744073709551616) : CMul i j ∨ CMulW i j := .inl (.inl h)
theorem CMul_r {i j : Int} (h : -18446744073709551616 < j ∧ j < 18446744073709551616) : CMul i j ∨ CMulW i j := .inl (.inr h)
theorem inv_frz {X : Cx} {pins : List (Addr × Obj)} {σ : L2.St} {H : Hp} {s : Shared} {a : Addr} {xs : List V} (I : Inv X pins σ H s) (h : H a = some (.lst xs)) : ∃ o, Inv X pins σ (upd H a (.frz o (.lst xs))) s := by
  obtain ⟨z, its, n, r, e⟩ := I.hok a _ h
  have ne : ∀ {b : Addr} {u : HO}, H b = some u → u ≠ .lst xs → b ≠ a := fun {b u} q hu e' => by
    subst e'; rw [h] at q; cases q; exact hu rfl
  refine ⟨{ cls := .type "list", data := .seq its.toArray n }, I.un (h' := s.heap) (t' := s.toks) ⟨fun b o q n hb hx => q, fun b o q n _ _ => ⟨o.slots, q⟩, fun b o q n hx => ?_, fun b o q _ => ⟨o, q⟩, fun b ys q => ?_, fun b o u q => ?_, fun b ps q => ⟨#[], ?_⟩⟩ fun b u (q : upd H a (.frz { cls := .type "list", data := .seq its.toArray n } (.lst xs)) b = some u) => ?_⟩
  · rw [upd_ne]
    · exact n
    · intro e'; subst e'; rw [h] at n; cases n
  · rw [upd_ne (ne q (fun z => nomatch z))]; exact q
  · rw [upd_ne (ne q (fun z => nomatch z))]; exact q
  · rw [upd_ne (ne q (fun z => nomatch z))]; simpa using q
  · by_cases hb : b = a
    · subst hb
      rw [upd_same] at q
      cases q
      exact ⟨e, z, its, n, r, e⟩
    · rw [upd_ne hb] at q
      exact (I.hok b u q).stay (fun _ _ _ q => q) (fun c q => by rw [upd_ne (ne q (fun z => nomatch z))]; exact q) (fun c ys q => by rw [upd_ne (ne q (fun z => nomatch z))]; exact q)
theorem pe_frz {X : Cx} {e : Expr} {t : TE} (h : PE X e t) : PE X e (fun σ H Q => t σ H (fun v H' => Q v H' ∨ ∃ a xs, v = .ref a ∧ H' a = some (.lst xs) ∧ ∀ o, Q v (upd H' a (.frz o (.lst xs))))) :=
  ⟨fun pins s σ H Q I q => thn (h.run pins s σ H _ I q) fun u s' ⟨v, H', I', r, q'⟩ => by
    rcases q' with q' | ⟨a, xs, e, hl, q'⟩
    · exact ⟨v, H', I', r, q'⟩
    · obtain ⟨o, I2⟩ := inv_frz I' hl
      exact ⟨v, _, I2, r, q' o⟩⟩
theorem ps_frz {X : Cx} {st : Stmt} {t : TS} (h : PS X st t) : PS X st (fun D σ H => t { D with nx := fun σ' H' => D.nx σ' H' ∨ ∃ a xs, H' a = some (.lst xs) ∧ ∀ o, D.nx σ' (upd H' a (.frz o (.lst xs))) } σ H) :=
  ⟨fun pins s σ H D I q => thn (h.run pins s σ H _ I q) fun f s' r => by
    cases f with
    | next =>
      obtain ⟨σ', H', I', q'⟩ := r
      rcases q' with q' | ⟨a, xs, hl, q'⟩
      · exact ⟨σ', H', I', q'⟩
      · obtain ⟨o, I2⟩ := inv_frz I' hl
        exact ⟨σ', _, I2, q' o⟩
    | brk => exact r
    | cont => exact r
    | ret u => exact r⟩
def fzK (d : Dv) (M : Ms) (Q : DK) : Prop := match d with
  | .ref a => onS (lstC (M a)) fun xs => ∃ M', M' a = none ∧ Sub M' M ∧ Q (.rol xs) M'
  | d => Q d M
def aFz (te : RE) : RE := fun ρ M Q => te ρ M fun d M1 => fzK d M1 Q
theorem fz_rep {K : PySem.W.Frag} {H : Hp} {a : Addr} {xs : List Dv} {vs : List V} {o : Obj} (hs : Soft (H a)) (r : Reps K H xs vs) : Rep K (upd H a (.frz o (.lst vs))) (.rol xs) (.ref a) := by
  simp only [Rep]
  exact ⟨a, vs, rfl, .inl ⟨o, upd_same⟩, r.mono (Tp.put hs)⟩
theorem fz_view {K : PySem.W.Frag} {H : Hp} {M M' : Ms} {a : Addr} {o : HO} (v : View K M H) (hs : Soft (H a)) (h0 : M' a = none) (s : Sub M' M) : View K M' (upd H a o) := fun b c e => by
  have hb : b ≠ a := fun z => by subst z; rw [h0] at e; cases e
  exact (v b c (s b c e)).keep (Tp.put hs) (upd_ne hb) (TpE.soft hs)
theorem fzK_val {d : Dv} {M : Ms} {Q : DK} (h : fzK d M Q) : (∃ a xs M', d = .ref a ∧ M a = some (.lst xs) ∧ M' a = none ∧ Sub M' M ∧ Q (.rol xs) M') ∨ Q d M := by
  cases d with
  | ref a =>
    obtain ⟨xs, e, M', h0, s, q⟩ := onS_ex h
    exact .inl ⟨a, xs, M', rfl, lstC_eq e, h0, s, q⟩
  | _ => exact .inr h
theorem fz_new {M : Ms} {p : Addr} {xs : List Dv} {Q : DK} (h : M p = none) (q : Q (.rol xs) M) : fzK (.ref p) (mup M p (.lst xs)) Q := onS_of (a := xs) (by rw [mup_same]; rfl) ⟨M, h, Sub.new h, q⟩
def mdel (M : Ms) (a : Addr) : Ms := fun b => if b = a then none else M b
theorem mdel_same {M : Ms} {a : Addr} : mdel M a a = none := if_pos rfl
theorem mdel_ne {M : Ms} {a b : Addr} (h : b ≠ a) : mdel M a b = M b := if_neg h
theorem mdel_sub {M : Ms} {a : Addr} : Sub (mdel M a) M := fun b c e => by
  by_cases h : b = a
  · subst h; rw [mdel_same] at e; cases e
  · rw [mdel_ne h] at e; exact e
theorem mdel_of {M M' : Ms} {a : Addr} (s : Sub M M') (h : M a = none) : Sub M (mdel M' a) := fun b c e => by
  rw [mdel_ne (ne_of_new e h)]; exact s b c e
section
variable {X : Cx} {e : Expr} {te : RE} {st : Stmt}
theorem ae_fz (h : AE X e te) : AE X e (aFz te) := pe_imp (pe_frz h) fun σ H Q' ⟨ρ, M, Q, hr, hv, q, k⟩ => seqE hr hv q fun v H1 d M1 t1 r1 v1 q1 => by
  rcases fzK_val q1 with ⟨a, xs, M', rfl, e1, h0, s, q2⟩ | q2
  · obtain ⟨vs, h1, h2⟩ := view_lst v1 e1
    have hs := v1.soft e1
    exact .inr ⟨a, vs, rep_ref_inv r1, h1, fun o => by
      rw [rep_ref_inv r1]
      exact k _ _ (.rol xs) M' (t1.trans (Tp.put hs)) (fz_rep hs h2) (fz_view v1 hs h0 s) q2⟩
  · exact .inl (k _ _ _ _ t1 r1 v1 q2)
theorem repE_swap {K : PySem.W.Frag} {H H' : Hp} {ρ : Env'} {σ : L2.St} {i : Nat} {d d' : Dv} (hi : ρ[i]? = some (some d)) (r : RepE K H ρ σ) (t : Tp K H H') (f : ∀ v, Rep K H d v → Rep K H' d' v) : RepE K H' (ρ.set i (some d')) σ := by
  refine ⟨by rw [← r.len]; simp, fun j x e => ?_⟩
  have hl : i < ρ.length := (List.getElem?_eq_some_iff.mp hi).1
  by_cases hj : i = j
  · subst hj
    rw [List.getElem?_set_self hl] at e
    cases e
    obtain ⟨v, h1, h2⟩ := r.at' i d hi
    exact ⟨v, h1, f v h2⟩
  · rw [List.getElem?_set_ne hj] at e
    obtain ⟨v, h1, h2⟩ := r.at' j x e
    exact ⟨v, h1, h2.mono t⟩
theorem as_fzset {i : Nat} {x : Str} (hi : X.N[i]? = some x) (h : AS X st (aAsg te (agName i))) : AS X st (aAsg (aFz te) (agName i)) :=
  ⟨fun pins s σ H D' I h' => by
    obtain ⟨ρ, M, D, hr, hv, q, k⟩ := h'
    have hl : i < ρ.length := by
      rw [hr.len, I.len]
      exact (List.getElem?_eq_some_iff.mp hi).1
    refine (ps_frz h).run pins s σ H D' I ⟨ρ, M, { D with nx := fun ρ' M' => match ρ'[i]? with | some (some d) => fzK d M' fun d' M2 => D.nx (ρ'.set i (some d')) M2 | _ => False }, hr, hv, ?_, ?_, k.rt, k.bk, k.ct⟩
    · have q' : te ρ M fun d M1 => fzK d M1 fun d' M2 => D.nx (ρ.set i (some d')) M2 := q
      have e : (fun d M1 => match (ρ.set i (some d))[i]? with | some (some d2) => fzK d2 M1 fun d' M2 => D.nx ((ρ.set i (some d)).set i (some d')) M2 | _ => False) = fun d M1 => fzK d M1 fun d' M2 => D.nx (ρ.set i (some d')) M2 := by
        funext d M1
        rw [List.getElem?_set_self hl]
        simp only [List.set_set]
      show te ρ M (fun d M1 => match (ρ.set i (some d))[i]? with | some (some d2) => fzK d2 M1 fun d' M2 => D.nx ((ρ.set i (some d)).set i (some d')) M2 | _ => False)
      rw [e]; exact q'
    · rintro σ1 H1 ρ1 M1 t1 r1 v1 q1
      replace q1 : (match ρ1[i]? with | some (some d) => fzK d M1 fun d' M2 => D.nx (ρ1.set i (some d')) M2 | _ => False) := q1
      split at q1
      · next d hd =>
        rcases fzK_val q1 with ⟨a, xs, M', rfl, e1, h0, s, q2⟩ | q2
        · obtain ⟨vs, h1, h2⟩ := view_lst v1 e1
          have hs := v1.soft e1
          exact .inr ⟨a, vs, h1, fun o => k.nx _ _ _ M' (t1.trans (Tp.put hs)) (repE_swap hd r1 (Tp.put hs) fun v rv => by rw [rep_ref_inv rv]; exact fz_rep hs h2) (fz_view v1 hs h0 s) q2⟩
        · exact .inl (k.nx _ _ _ _ t1 (repE_swap hd r1 (Tp.refl H1) fun v rv => rv) v1 q2)
      · exact q1.elim⟩
theorem lcFk_opt {keep : Ms → Prop} {tg : Tg} {own : List Nat} {tt : RT} {ρ : Env'} {Q : DK} {M : Ms} {ds : List Dv} (g : Nat → Option Dv) (hk : ∀ M', Sub M M' → keep M') (hl : ds.length ≤ sizeLine)
    (ht : ∀ i d, ds[i]? = some d → ∀ (M' : Ms) (N : Option Dv → Ms → Prop), Sub M M' → N (g i) M' → ∃ ρ', Tg.put tg d (wipeA ρ own) M' = some ρ' ∧ tt ρ' M' fun b M2 => onIf b (te ρ' M2 fun y M3 => N (some y) M3) (N none M2))
    (q : Q (.rol ((List.range ds.length).filterMap g)) M) : ∀ D, M D = none → lcW keep tg own tt te ρ D (fun M' => fzK (.ref D) M' Q) ds (mup M D (.lst [])) := fun D hD => by
  have len : ∀ i, ((List.range i).filterMap g).length ≤ i := fun i => by
    have := List.length_filterMap_le g (List.range i)
    simpa using this
  refine lcW_inv (fun i M' => M' = mup M D (.lst ((List.range i).filterMap g))) rfl (fun i M' _ e => by subst e; exact hk _ (Sub.new hD)) (fun i d M' hd e => ?_) fun M' e => ?_
  · subst e
    have hi := (List.getElem?_eq_some_iff.mp hd).1
    obtain ⟨ρ', h1, h2⟩ := ht i d hd (mup M D (.lst ((List.range i).filterMap g))) (fun o M3 => match o with
      | some y => ∃ acc, M3 D = some (.lst acc) ∧ acc.length < sizeLine ∧ wkM (fun M' => M' = mup M D (.lst ((List.range (i + 1)).filterMap g))) (mup M3 D (.lst (acc ++ [y])))
      | none => wkM (fun M' => M' = mup M D (.lst ((List.range (i + 1)).filterMap g))) M3) (Sub.new hD) (by
        cases e : g i with
        | some y =>
          refine ⟨_, mup_same, ?_, _, Sub.refl _, ?_⟩
          · have := len i; omega
          · rw [mup_mup, List.range_succ, List.filterMap_append]
            simp [e]
        | none =>
          refine ⟨_, Sub.refl _, ?_⟩
          rw [List.range_succ, List.filterMap_append]
          simp [e])
    exact ⟨ρ', h1, h2⟩
  · subst e
    refine onS_of (a := (List.range ds.length).filterMap g) (by rw [mup_same]; rfl) ⟨M, hD, Sub.new hD, q⟩
theorem lcF_opt {keep : Ms → Prop} {tg : Tg} {own : List Nat} {tt : RT} {ρ : Env'} {Q : DK} {M : Ms} {ds : List Dv} (g : Nat → Option Dv) (hk : ∀ M, keep M) (hl : ds.length ≤ sizeLine)
    (ht : ∀ i d, ds[i]? = some d → ∀ (M' : Ms) (N : Option Dv → Ms → Prop), Sub M M' → N (g i) M' → ∃ ρ', Tg.put tg d (wipeA ρ own) M' = some ρ' ∧ tt ρ' M' fun b M2 => onIf b (te ρ' M2 fun y M3 => N (some y) M3) (N none M2))
    (q : Q (.rol ((List.range ds.length).filterMap g)) M) : ∀ D, M D = none → lcW keep tg own tt te ρ D (fun M' => fzK (.ref D) M' Q) ds (mup M D (.lst [])) :=
  lcFk_opt g (fun _ _ => hk _) hl ht q
theorem lcF {keep : Ms → Prop} {tg : Tg} {own : List Nat} {ρ : Env'} {Q : DK} {M : Ms} {ds : List Dv} (f : Nat → Dv) (hk : ∀ M, keep M) (hl : ds.length ≤ sizeLine)
    (ht : ∀ i d, ds[i]? = some d → ∀ (M' : Ms) (N : Dv → Ms → Prop), Sub M M' → N (f i) M' → ∃ ρ', Tg.put tg d (wipeA ρ own) M' = some ρ' ∧ te ρ' M' N)
    (q : Q (.rol ((List.range ds.length).map f)) M) : ∀ D, M D = none → lcW keep tg own aYes te ρ D (fun M' => fzK (.ref D) M' Q) ds (mup M D (.lst [])) :=
  lcF_opt (fun i => some (f i)) hk hl (fun i d hd M' N hs hn => by
    obtain ⟨ρ', h1, h2⟩ := ht i d hd M' (fun y M3 => N (some y) M3) hs hn
    exact ⟨ρ', h1, h2⟩) (by rw [List.filterMap_eq_map']; exact q)
end
end HC
set_option maxHeartbeats 1000000
namespace HC
open PySem L2 PyProof.Rows
section
variable {X : Cx} {a b e : Expr} {ta tb te : RE} {pos p pos2 p2 : Pos} {K : PySem.W.Frag}
def RgA (a b : Int) : Prop := -4611686018427387904 ≤ a ∧ a < 4611686018427387904 ∧ -4611686018427387904 ≤ b ∧ b < 4611686018427387904 ∧ b - a ≤ 16777216
theorem RgA.ok {a b : Int} (h : RgA a b) : RgOk a b := by
  obtain ⟨h1, h2, h3, h4, h5⟩ := h
  have e1 : (2 : Int) ^ 62 = 4611686018427387904 := by decide
  have e2 : (2 : Nat) ^ 24 = 16777216 := by decide
  refine ⟨?_, ?_, ?_, ?_, ?_⟩
  · rw [e1]; exact h1
  · rw [e1]; exact h2
  · rw [e1]; exact h3
  · rw [e1]; exact h4
  · rw [e2]; omega
end
section
variable {X : Cx} {e : Expr} {te : RE} {K : PySem.W.Frag}
end
section
variable {tt : RT} {te : RE}
theorem map_idx {ds : List Dv} {β : Type} (f : Dv → β) : (List.range ds.length).map (fun i => f (ds.getD i .non)) = ds.map f := by
  refine List.ext_getElem (by simp) fun i h1 h2 => ?_
  simp at h1 h2
  simp [h1, List.getD]
theorem lcM {keep : Ms → Prop} {tg : Tg} {own : List Nat} {ρ : Env'} {Q : DK} {M : Ms} {ds : List Dv} (f : Dv → Dv) (hk : ∀ M, keep M) (hl : ds.length ≤ sizeLine)
    (ht : ∀ d ∈ ds, ∀ (M' : Ms) (N : Dv → Ms → Prop), Sub M M' → N (f d) M' → ∃ ρ', Tg.put tg d (wipeA ρ own) M' = some ρ' ∧ te ρ' M' N)
    (q : Q (.rol (ds.map f)) M) : ∀ D, M D = none → lcW keep tg own aYes te ρ D (fun M' => fzK (.ref D) M' Q) ds (mup M D (.lst [])) :=
  lcF (fun i => f (ds.getD i .non)) hk hl (fun i d hd M' N hs hn => by
    have e : ds.getD i .non = d := by simp [List.getD, hd]
    rw [e] at hn
    exact ht d (List.mem_of_getElem? hd) M' N hs hn) (by rw [map_idx]; exact q)
end
theorem mdel_put {M : Ms} {q : Addr} {c : Cell} : mdel (mup M q c) q = mdel M q := by
  funext b
  unfold mdel
  by_cases h : b = q
  · rw [if_pos h, if_pos h]
  · rw [if_neg h, if_neg h, mup_ne h]
theorem dec_int {i j : Int} {inst : Decidable (Dv.int i = Dv.int j)} : @decide (Dv.int i = Dv.int j) inst = decide (i = j) := decide_eq_decide.mpr ⟨Dv.int.inj, fun h => by rw [h]⟩
theorem dec_str {i j : Str} {inst : Decidable (Dv.str i = Dv.str j)} : @decide (Dv.str i = Dv.str j) inst = decide (i = j) := decide_eq_decide.mpr ⟨Dv.str.inj, fun h => by rw [h]⟩
theorem acAll_map {α : Type} {xs : List α} {g : α → Bool} {M : Ms} {Q : DK} (q : Q (.bl (xs.all g)) M) : acAll [.rol (xs.map fun x => .bl (g x))] M Q :=
  ⟨xs.map g, by simp [lstA, itemsA, List.map_map, Function.comp_def], by simpa [List.all_map] using q⟩
theorem acAll_eq {α : Type} {xs : List α} {g : α → Bool} {M : Ms} : lstA (.rol (xs.map fun x => .bl (g x))) M = some ((xs.map g).map Dv.bl) := by simp [lstA, itemsA, List.map_map, Function.comp_def]
theorem all_map_id {α : Type} {xs : List α} {g : α → Bool} : (xs.map g).all id = xs.all g := by simp [List.all_map]
end HC
set_option maxHeartbeats 1000000
namespace HC
open PySem L2 PyProof.Rows
section
variable {X : Cx} {a b e : Expr} {ta tb te : RE} {pos p pos2 p2 : Pos} {K : PySem.W.Frag}
def rCatF (K : PySem.W.Frag) : R2 := fun x y H Q => ∃ l b xs zs, x = .ref l ∧ y = .ref b ∧ SqL K H l xs ∧ SqL K H b zs ∧ xs.length + zs.length ≤ sizeLine ∧ ∀ p, H p = none → Q (.ref p) (upd H p (.lst (xs ++ zs)))
theorem op_catF : OpR X (binaryOp .Add) (rCatF X.K) := by
  intro pins s σ H x y v u Q I rx ry h
  obtain ⟨l, b, xs, zs, rfl, rfl, hH, hB, hz, q⟩ := h
  cases rx
  cases ry
  obtain ⟨its, r, ⟨o, n, e, hc, hd, hs⟩, hl⟩ := I.list hH
  obtain ⟨its2, r2, ⟨o2, n2, e2, hc2, hd2, hs2⟩, hl2⟩ := I.list hB
  have l1 := r.length
  have l2 := r2.length
  obtain ⟨cls, dd, data, sl⟩ := o
  obtain ⟨cls2, dd2, data2, sl2⟩ := o2
  simp only at hc hd hs hc2 hd2 hs2
  subst hc hd hs hc2 hd2 hs2
  have ea : its.toArray ++ its2.toArray = (its ++ its2).toArray := by simp
  refine PySem.concat_meets ⟨_, e, rfl⟩ ⟨_, e2, rfl⟩ noFill_list_add seq_list_add PySem.F.slot_list_add PySem.F.entry_list_add (PySem.F.args_list_add_2 _ _) (PyProof.Rows.list_addW l b its.toArray its2.toArray n n2 none none sl sl2 (by simp; omega)) ⟨e, e2, ?_⟩
  rw [ea]
  exact ⟨.ref _, _, I.lnew (t' := s.toks) (r.append r2) (by rw [List.length_append]; omega), rfl, q _ I.fresh⟩
def aAddF : AR2 := fun x y M Q => match x, y with
  | .rol xs, .rol ys => xs.length + ys.length ≤ sizeLine ∧ ∀ p, M p = none → Q (.ref p) (mup M p (.lst (xs ++ ys)))
  | .rol xs, .ref b => ∃ ys, M b = some (.lst ys) ∧ xs.length + ys.length ≤ sizeLine ∧ ∀ p, M p = none → Q (.ref p) (mup M p (.lst (xs ++ ys)))
  | .ref a, .rol ys => ∃ xs, M a = some (.lst xs) ∧ xs.length + ys.length ≤ sizeLine ∧ ∀ p, M p = none → Q (.ref p) (mup M p (.lst (xs ++ ys)))
  | x, y => aAdd x y M Q
theorem op_addF : OpR X (binaryOp .Add) (fun x y H Q => rAddH X.K x y H Q ∨ rCatF X.K x y H Q) := opr_or op_addH op_catF
theorem ab_addF {K : PySem.W.Frag} : Ab2 K (fun x y H Q => rAddH K x y H Q ∨ rCatF K x y H Q) aAddF := by
  intro H M x y dx dy Q Q' rx ry hv q k
  have old : aAdd dx dy M Q → rAddH K x y H Q' ∨ rCatF K x y H Q' := fun q => .inl (ab_add _ _ _ _ _ _ _ _ rx ry hv q k)
  cases dx <;> cases dy <;> first | exact old q | skip
  case rol.rol ds es =>
    obtain ⟨a, vs, e1, s1, r1⟩ := rep_rol_inv rx
    obtain ⟨b, ws, e2, s2, r2⟩ := rep_rol_inv ry
    obtain ⟨z, q⟩ := q
    have l1 := r1.length
    have l2 := r2.length
    exact .inr ⟨a, b, vs, ws, e1, e2, s1.l, s2.l, by omega, end_lst (r1.append r2) hv q k⟩
  case rol.ref ds b =>
    obtain ⟨a, vs, e1, s1, r1⟩ := rep_rol_inv rx
    obtain ⟨ys, h2, z, q⟩ := q
    obtain ⟨ws, e2, r2⟩ := view_lst hv h2
    have l1 := r1.length
    have l2 := r2.length
    exact .inr ⟨a, b, vs, ws, e1, rep_ref_inv ry, s1.l, SqL.of e2, by omega, end_lst (r1.append r2) hv q k⟩
  case ref.rol a es =>
    obtain ⟨b, ws, e2, s2, r2⟩ := rep_rol_inv ry
    obtain ⟨xs, h1, z, q⟩ := q
    obtain ⟨vs, e1, r1⟩ := view_lst hv h1
    have l1 := r1.length
    have l2 := r2.length
    exact .inr ⟨a, b, vs, ws, rep_ref_inv rx, e2, SqL.of e1, s2.l, by omega, end_lst (r1.append r2) hv q k⟩
theorem ae_addF (ha : AE X a ta) (hb : AE X b tb) : AE X (.BinOp a .Add b pos) (aOp aAddF ta tb) := ae_op op_addF ab_addF ha hb
end
end HC
set_option maxHeartbeats 1000000
namespace HC
open PySem L2 PyProof.Rows
section
variable {X : Cx} {a b e o i : Expr} {ta tb te to ti : RE} {pos p pos2 p2 tpos : Pos} {K : PySem.W.Frag}
end
end HC
namespace HC
open PySem L2 PyProof.Rows
section
variable {X : Cx} {a b c e o : Expr} {es : List Expr} {ta tb tc te to tk : RE} {t : RA} {pos p pos2 p2 tpos : Pos} {K : PySem.W.Frag}
theorem eqV_key (k j : Key) : eqV (kV k) (kV j) = decide (k = j) := by
  rcases k with k | k <;> rcases j with j | j
  · show (k == j) = _
    by_cases h : k = j
    · subst h; simp
    · simp [h]
  · show false = _
    simp
  · show false = _
    simp
  · show (k == j) = _
    by_cases h : k = j
    · subst h; simp
    · have : (k == j) = false := by simpa using h
      rw [this]
      simp [h]
def memK (k : Key) (ks : List Key) : Bool := ks.any fun j => decide (j = k)
theorem inV_keys (k : Key) (ks : List Key) : inV (kV k) (ks.map kV) = memK k ks := by
  unfold inV memK
  rw [List.any_map]
  congr 1
  funext j
  exact eqV_key j k
theorem flat_keys (ks : List Key) : (ks.map kV).all flatV = true := by
  rw [List.all_eq_true]
  intro v hv
  obtain ⟨k, _, rfl⟩ := List.mem_map.mp hv
  cases k <;> rfl
theorem flat_key (k : Key) : flatV (kV k) = true := by cases k <;> rfl
def rDIn (neg : Bool) : R2 := fun x y H Q => ∃ a o, y = .ref a ∧ DGet H a x o ∧ Q (.bl (if neg then !o.isSome else o.isSome)) H
theorem op_dIn (hu : X.A.units + 1 < cLine) : OpR X (compareOp .In) (rDIn false) := by
  intro pins s σ H x y v u Q I rx ry h
  obtain ⟨a, o, rfl, g, q⟩ := h
  cases ry
  exact d_in hu I g rx fun s' I' => ⟨.bl _, H, I', rfl, q⟩
def negB (neg b : Bool) : Bool := if neg then !b else b
def aInKB (neg : Bool) : AR2 := fun x y M Q => onS (keyD x) fun k => match y with
  | .ref a => match M a with
    | some (.lst xs) => onS (keysD xs) fun ks => Q (.bl (negB neg (memK k ks))) M
    | some (.dic kvs) => Q (.bl (negB neg (getK kvs k).isSome)) M
    | _ => False
  | .rol xs => onS (keysD xs) fun ks => Q (.bl (negB neg (memK k ks))) M
  | .tup xs => onS (keysD xs) fun ks => Q (.bl (negB neg (memK k ks))) M
  | _ => False
def aInK : AR2 := aInKB false
theorem ab_inK {neg : Bool} : Ab2 K (fun x y H Q => rIn K neg x y H Q ∨ rDIn neg x y H Q) (aInKB neg) := by
  intro H M x y dx dy Q Q' rx ry hv q k
  obtain ⟨kk, e, q0⟩ := onS_ex q
  clear q
  have ex := keyD_ok rx e
  subst ex
  have fin : ∀ ks : List Key, Q (.bl (negB neg (memK kk ks))) M → Q' (.bl (if neg then !inV (kV kk) (ks.map kV) else inV (kV kk) (ks.map kV))) H := fun ks q => by
    rw [inV_keys]
    exact k _ _ _ _ (Tp.refl H) rep_bl hv q
  cases dy <;> first | exact q0.elim | skip
  case ref r =>
    have ey := rep_ref_inv ry
    subst ey
    simp only [] at q0
    split at q0
    · next xs e1 =>
      obtain ⟨ks, e2, q⟩ := onS_ex q0
      obtain ⟨vs, e3, r1⟩ := view_lst hv e1
      have := keysD_ok r1 e2
      subst this
      exact .inl ⟨r, _, rfl, .inl (SqL.of e3), flat_key kk, flat_keys ks, fin ks q⟩
    · next kvs e1 =>
      obtain ⟨vs, e2, rr⟩ := (show ∃ kvs', H r = some (.dK kvs') ∧ Paired (fun (p : Key × Dv) (q : Key × V) => p.1 = q.1 ∧ Rep K H p.2 q.2) kvs kvs' from hv r _ e1)
      refine .inr ⟨r, _, rfl, DGet.k e2, ?_⟩
      have es : (valV vs kk).isSome = (getK kvs kk).isSome := by
        rcases getK_ok (k := kk) rr with ⟨h1, h2⟩ | ⟨d', v, h1, h2, _⟩
        · rw [h1, h2]; rfl
        · rw [h1, h2]; rfl
      rw [es]
      exact k _ _ _ _ (Tp.refl H) rep_bl hv q0
    · exact q0.elim
  case rol xs =>
    obtain ⟨ks, e2, q⟩ := onS_ex q0
    obtain ⟨a, vs, e1, s1, r1⟩ := rep_rol_inv ry
    have := keysD_ok r1 e2
    subst this
    exact .inl ⟨a, _, e1, .inl s1.l, flat_key kk, flat_keys ks, fin ks q⟩
  case tup xs =>
    obtain ⟨ks, e2, q⟩ := onS_ex q0
    obtain ⟨a, vs, e1, s1, r1⟩ := rep_tup_inv ry
    have := keysD_ok r1 e2
    subst this
    exact .inl ⟨a, _, e1, .inr s1, flat_key kk, flat_keys ks, fin ks q⟩
theorem op_inK (hu : X.A.units + 1 < cLine) : OpR X (compareOp .In) (fun x y H Q => rIn X.K false x y H Q ∨ rDIn false x y H Q) := opr_or op_in_seq (op_dIn hu)
theorem at_inK (hu : X.A.units + 1 < cLine) (ha : AE X a ta) (hb : AE X b tb) (hm : behindInMarks .In b = false := by with_unfolding_all rfl) : AT X (.Compare a [.In] [b] pos) (aB (aOp aInK ta tb)) := at_cmp (op_inK hu) ab_inK ha hb hm
end
end HC
namespace HC
open PySem L2 PyProof.Rows
section
variable {X : Cx} {a b c e o key : Expr} {es : List Expr} {ta tb tc te to tk : RE} {t : RA} {pos p pos2 p2 tpos xp yp sp ap cp rp : Pos} {K : PySem.W.Frag} {d : Addr} {x y : Str}
structure TabK (K : PySem.W.Frag) (w : World) (mg : Str → Option Value) (x : Str) (d : Addr) : Prop where
  g : mg x = some (.ref d)
  kd : ∃ es n, KDict K w d es n
end
end HC
set_option maxHeartbeats 1000000
namespace HC
open PySem PySem.Spec L2 PyProof.Rows
theorem fun_ofD {K : PySem.W.Frag} {x q : Str} {st : Stmt} {f : Addr} {fd : FuncData} (F : FunD K x q (defArgs st) (defBody st) (defScope st) [] [] f fd) : Fun K x q st f fd := by
  obtain ⟨oc, od, dV, kV, doc, pm, an, cdv, ct, osl, e, lk, hcd, hd, _⟩ := F.ex
  rcases hd with ⟨_, rfl⟩ | ⟨h, _⟩
  · exact ⟨⟨oc, od, kV, doc, pm, an, cdv, ct, osl, e, lk, hcd⟩, F.kp⟩
  · exact absurd rfl h
section
variable {fa : List He.Fa} {fn : List He.DefD} {ts : List He.Tab} {ex : List (PySem.W.Frag → Bool)} {w : World} {K : PySem.W.Frag} {h : Heap} {mg : Str → Option Value}
theorem SaysY.t (c : SaysY fa fn ts ex w K) : He.SaysT fa fn ts w K := congrArg (fun z : AlY => z.1) c
theorem SaysY.at_ (c : SaysY fa fn ts ex w K) (i : Nat) {f : PySem.W.Frag → Bool} (e : ex[i]? = some f := by rfl) : f K = true := by
  have c1 : (ex.all fun f => f K) = true := congrArg (fun z : AlY => z.2) c
  exact List.all_eq_true.mp c1 f (List.mem_of_getElem? e)
theorem SaysY.fact (c : SaysY fa fn ts ex w K) (i : Nat) {f : He.Fa} (e : fa[i]? = some f := by rfl) : f.ok K = true := c.t.d.fact i e
theorem SaysY.fn_ (c : SaysY fa fn ts ex w K) (i : Nat) {x : Str} {st : Stmt} (e : fn[i]? = some (ddF x st) := by rfl) : ∃ fd, Fun K x x st (He.ga K x) fd := by
  obtain ⟨fd, F⟩ := c.t.d.def_ i e
  exact ⟨fd, fun_ofD F⟩
theorem SaysY.law_ (c : SaysY fa fn ts ex w K) (i : Nat) {x : Str} {st : Stmt} (e : fn[i]? = some (ddF x st) := by rfl) : ∃ fd, FunD K x x (defArgs st) (defBody st) (defScope st) [] [] (He.ga K x) fd := c.t.d.def_ i e
theorem SaysY.in_ (c : SaysY fa fn ts ex w K) (i : Nat) {x q : Str} {st : Stmt} (e : fn[i]? = some (ddI x q st) := by rfl) : ∃ fd, Fun K "__init__" q st (He.ma K (He.ga K x) "__init__") fd := by
  obtain ⟨fd, F⟩ := c.t.d.def_ i e
  exact ⟨fd, fun_ofD F⟩
theorem SaysY.me_ (c : SaysY fa fn ts ex w K) (i : Nat) {x m q : Str} {st : Stmt} (e : fn[i]? = some (ddM x m q st) := by rfl) : ∃ fd, Fun K m q st (He.ma K (He.ga K x) m) fd := by
  obtain ⟨fd, F⟩ := c.t.d.def_ i e
  exact ⟨fd, fun_ofD F⟩
theorem SaysY.glo (c : SaysY fa fn ts ex w K) (X : K.In h) (G : h.Ns mainGlobals mg) (i : Nat) {x : Str} (e : fa[i]? = some (.glo x) := by rfl) : mg x = some (.ref (He.ga K x)) := He.glo_ok X G (c.fact i e)
theorem SaysY.gn (c : SaysY fa fn ts ex w K) (i : Nat) {x : Str} (e : fa[i]? = some (.glo x) := by rfl) : PySem.W.nsIn K mainGlobals x = some (some (.ref (He.ga K x))) := He.eqO_ok (c.fact i e)
theorem SaysY.free (c : SaysY fa fn ts ex w K) (X : K.In h) (G : h.Ns mainGlobals mg) (i : Nat) {x : Str} (e : fa[i]? = some (.free x) := by rfl) : mg x = none := He.free_ok X G (c.fact i e)
theorem SaysY.int (c : SaysY fa fn ts ex w K) (X : K.In h) (G : h.Ns mainGlobals mg) (i : Nat) {x : Str} {k : Int} (e : fa[i]? = some (.int x k) := by rfl) : ∃ t, mg x = some (.int k t) := He.int_ok X G (c.fact i e)
theorem SaysY.str (c : SaysY fa fn ts ex w K) (X : K.In h) (G : h.Ns mainGlobals mg) (i : Nat) {x z : Str} (e : fa[i]? = some (.str x z) := by rfl) : ∃ t, mg x = some (.str z t) := He.str_ok X G (c.fact i e)
end
end HC
set_option maxHeartbeats 1000000
namespace HC
open PySem L2 PyProof.Rows
section
variable {X : Cx} {K : PySem.W.Frag}
end
end HC
namespace HC
open PySem L2 PyProof.Rows
section
variable {X : Cx} {K : PySem.W.Frag} {o e : Expr} {es : List Expr} {apos cpos tpos : Pos} {to te : RE} {t : RA}
end
end HC
namespace HC
open PySem L2 PyProof.Rows
section
variable {X : Cx} {K : PySem.W.Frag} {x : Str} {p : Pos}
end
end HC
set_option maxHeartbeats 1000000
namespace HC
open PySem PySem.Spec L2 PyProof.Rows
section
variable {prog : Program} {w : World} {A : Around} {E : Value → Shared → Prop} {s : Shared}
end
def PrAt (K : PySem.W.Frag) (H : Hp) (x : V) (p : Int × Int) : Prop := ∃ t, x = V.ref t ∧ SqT K H t [.int p.1, .int p.2]
theorem PrAt.up {K : PySem.W.Frag} {H : Hp} {x : V} {p : Int × Int} {d : Addr} {o : HO} (h : PrAt K H x p) (hd : H d = none) : PrAt K (upd H d o) x p := by
  obtain ⟨t, e, s⟩ := h
  exact ⟨t, e, (Tp.new hd).t _ _ s⟩
section
variable {X : Cx}
end
end HC
namespace HC
open PySem PySem.Spec L2 HT PyProof.Rows
section
variable {prog : Program} {w : World} {A : Around} {E : Value → Shared → Prop} {s : Shared}
end
section
variable {X : Cx} {e : Expr} {te : RE}
end
end HC
set_option maxHeartbeats 1000000
namespace HC
open PySem PySem.Spec L2 PyProof.Rows
section
variable {X : Cx} {e o f : Expr} {es : List Expr} {te to tf : RE} {t : RA} {pos apos cpos p : Pos} {K : PySem.W.Frag}
end
end HC
namespace HC
open PySem L2
theorem hu65_of {k : Nat} {A : Around} (r : Room k A) : A.units + 65 < cLine := by
  have := r.un
  omega
end HC
set_option maxHeartbeats 1000000
namespace HC
open PySem PySem.Spec L2 PyProof.Rows
section
variable {X : Cx} {e o f tg : Expr} {es : List Expr} {te to tf : RE} {t : RA} {pos apos cpos p : Pos} {K : PySem.W.Frag}
end
end HC
namespace HC
open PySem PySem.Spec L2 PyProof.Rows
section
variable {X : Cx} {e o f tg : Expr} {es : List Expr} {te to tf : RE} {t : RA} {pos apos cpos p : Pos} {K : PySem.W.Frag}
open Classical in
noncomputable def aInDB (neg : Bool) : AR2 := fun x y M Q => onS (itemsA y M) fun ys => Pl 8 x ∧ (∀ z ∈ ys, Pl 8 z) ∧ Q (.bl (negB neg (decide (x ∈ ys)))) M
noncomputable def aInD : AR2 := aInDB false
def rInT (K : PySem.W.Frag) (neg : Bool) : R2 := fun x y H Q => ∃ d ds, Dp K H x d ∧ Dp K H y (.tuple ds) ∧ SeqAt.shaped d = true ∧ SeqAt.shaped (.tuple ds) = true ∧ Q (.bl (negB neg (ds.any fun z => PyData.eqv z d))) H
theorem op_inT (hu : X.A.units + 65 < cLine) : OpR X (compareOp .In) (rInT X.K false) := by
  intro pins s σ H x y v u Q I rx ry h
  obtain ⟨d, ds, hd, he, sd, se, q⟩ := h
  obtain ⟨as, r1⟩ := Dp.reads I d x v hd rx
  obtain ⟨bs, r2⟩ := Dp.reads I (.tuple ds) y u he ry
  exact SeqAt.in_tuple_reads r2 r1 (SeqAt.canLay_of_shaped se) (SeqAt.canLay_of_shaped sd) (room_in_shaped sd hu) ⟨.bl _, H, I, rfl, q⟩
open Classical in
theorem any_pl {n : Nat} {x : Dv} (hx : Pl n x) : ∀ {ys : List Dv}, (∀ y ∈ ys, Pl n y) → ((ys.map (pyP n)).any fun z => PyData.eqv z (pyP n x)) = decide (x ∈ ys)
  | [], _ => by simp
  | y :: ys, h => by
    rw [List.map_cons, List.any_cons, any_pl hx fun z hz => h z (List.mem_cons_of_mem _ hz), eqv_dec n y x (h y List.mem_cons_self) hx]
    by_cases e : x = y
    · subst e; simp
    · have e' : ¬ y = x := fun z => e z.symm
      simp [e, e']
def rInB (K : PySem.W.Frag) (neg : Bool) : R2 := fun x y H Q => (∃ d ds, Dp K H x d ∧ Dp K H y (.list ds) ∧ SeqAt.shaped d = true ∧ SeqAt.shaped (.list ds) = true ∧ Q (.bl (negB neg (ds.any fun z => PyData.eqv z d))) H) ∨ rInT K neg x y H Q
theorem op_inB (hu : X.A.units + 65 < cLine) : OpR X (compareOp .In) (rInB X.K false) := opr_or (op_inD hu) (op_inT hu)
theorem ab_inDB {neg : Bool} : Ab2 K (rInB K neg) (aInDB neg) := by
  intro H M x y dx dy Q Q' rx ry hv q k
  obtain ⟨ys, h, px, py, q⟩ := onS_ex q
  obtain ⟨a, vs, e, s, z⟩ := itemsA_ok ry hv h
  have dall := dpAll_of (dp_of 8) py z
  have dx' := dp_of 8 _ _ px rx
  have l1 : PyData.canLayAll0 (ys.map (pyP 8)) = true := canLayAll_of fun d hd => canLay_pl 8 d (py d hd)
  have z1 := depthAll_of fun d hd => depth_pl 8 d (py d hd)
  have l2 := canLay_pl _ _ px
  have z2 := depth_pl _ _ px
  subst e
  have fin : Q' (.bl (negB neg ((ys.map (pyP 8)).any fun z => PyData.eqv z (pyP 8 dx)))) H := by
    rw [any_pl px py]
    exact k _ _ _ _ (Tp.refl H) rep_bl hv q
  rcases s with s | s
  · exact .inr ⟨_, _, dx', .tup s dall, shaped_of l2 (by omega), shaped_of (by simp only [PyData.canLay0]; exact l1) (by simp only [PyData.depth]; omega), fin⟩
  · exact .inl ⟨_, _, dx', .lst s dall, shaped_of l2 (by omega), shaped_of (by simp only [PyData.canLay0]; exact l1) (by simp only [PyData.depth]; omega), fin⟩
theorem at_inD {a b : Expr} {ta tb : RE} (hu : X.A.units + 65 < cLine) (ha : AE X a ta) (hb : AE X b tb) (hm : behindInMarks .In b = false := by with_unfolding_all rfl) : AT X (.Compare a [.In] [b] pos) (aB (aOp aInD ta tb)) := at_cmp (op_inB hu) ab_inDB ha hb hm
end
section
end
section
variable {X : Cx} {e o f tg : Expr} {es : List Expr} {te to tf : RE} {t : RA} {pos apos cpos p : Pos} {K : PySem.W.Frag}
end
end HC
set_option maxHeartbeats 1000000
namespace HC
open PySem PySem.Spec L2 PyProof.Rows
section
variable {X : Cx} {e : Expr} {te : RE} {pos : Pos} {K : PySem.W.Frag}
end
end HC
namespace HC
open PySem PySem.Spec L2 PyProof.Rows
end HC
set_option maxHeartbeats 1000000
namespace HC
open PySem L2 PyProof.Rows
abbrev WXA := Str → Option Int → Ms → Prop
abbrev XSp := List Dv → Ms → DK → WXA → Prop
def RepX (K : PySem.W.Frag) (H : Hp) (c : Str) (f : Option Int) (cls : Value) (d : Option Addr) : Prop := (∃ C, cls = .ref C ∧ PySem.W.nsIn K mainGlobals c = some (some (.ref C))) ∧
  match f with
  | none => d = none
  | some r => ∃ dx, d = some dx ∧ H dx = some (.xd [(("row" : Str), .int r)])
def liftW (K : PySem.W.Frag) (W : WXA) : L2.WX := fun cls d σ H => ∃ c f M, RepX K H c f cls d ∧ View K M H ∧ W c f M
def cSpX (K : PySem.W.Frag) (asp : XSp) : Sp := fun vs H Q' E' => ∃ ds M Q E, Reps K H ds vs ∧ View K M H ∧ asp ds M Q E ∧ LkV K H Q Q' ∧
  ∀ c f cls d M1 H1, RepX K H1 c f cls d → Tp K H H1 → View K M1 H1 → E c f M1 → E' cls d H1
abbrev FnX (P : Program) (w : World) (K : PySem.W.Frag) (mg : Str → Option Value) (base : Heap) (k : Nat) (f : Addr) (fd : FuncData) (ps : List Str) (asp : XSp) : Prop := FnOk P w K mg base (L2N.CX P w) k f fd ps (cSpX K asp)
theorem flyZ_imp {h B : Heap} {l : List Env} {a : Addr} {Z Z' : Obj → Prop} (z : ∀ o, Z o → Z' o) (x : HandSPX.FlyingZ B l a Z h) : HandSPX.FlyingZ B l a Z' h := by
  obtain ⟨h1, h2, h3, oe, vs, T, oT, ts, he, hz, r⟩ := x
  exact ⟨h1, h2, h3, oe, vs, T, oT, ts, he, z _ hz, r⟩
theorem sky_imp {h B : Heap} {l : List Env} {a L : Addr} {Z Z' : Obj → Prop} (z : ∀ o, Z o → Z' o) (x : Sky B l a Z L h) : Sky B l a Z' L h := by
  rcases x with ⟨h1, h2, h3, oe, vs, he, hz, r⟩ | x | ⟨h1, h2, h3, oe, vs, T, oT, ts, he, hz, r⟩
  · exact .inl ⟨h1, h2, h3, oe, vs, he, z _ hz, r⟩
  · exact .inr (.inl (flyZ_imp z x))
  · exact .inr (.inr ⟨h1, h2, h3, oe, vs, T, oT, ts, he, z _ hz, r⟩)
theorem takesN {X : Cx} {W : WX} (tk : L2.Takes X W) : L2N.Takes X W := fun u s' ⟨a, B, sI, pins, σ, H, cls, d, e, I, nb, up, sky, na, os, ag, w⟩ =>
  tk u s' ⟨a, B, sI, pins, σ, H, cls, d, e, I, nb, up, sky_imp (fun _ z => z.zc) sky, na, os, ag, w⟩
theorem takesFW {X : Cx} : L2.Takes X (liftW X.K fun _ _ _ => False) := L2.takes0.imp fun _ _ _ _ ⟨_, _, _, _, _, z⟩ => z.elim
def noxS (asp : XSp) : ASp := fun ds M Q => asp ds M Q fun _ _ _ => False
theorem FnX.nox {P : Program} {w : World} {K : PySem.W.Frag} {mg : Str → Option Value} {base : Heap} {k : Nat} {f : Addr} {fd : FuncData} {ps : List Str} {asp : XSp} (F : FnX P w K mg base k f fd ps asp) : FnA P w K mg base k f fd ps (noxS asp) := by
  have sp' : ∀ vs H Q E, cSp K (noxS asp) vs H Q E → cSpX K asp vs H Q (fun _ _ _ => False) := fun vs H Q E ⟨ds, M, Q1, r, v, q, kk⟩ => ⟨ds, M, Q1, _, r, v, q, kk, fun _ _ _ _ _ _ _ _ _ z => z⟩
  refine ⟨fun vs H Q E h => F.len vs H Q _ (sp' vs H Q E h), fun A outer s H args us vs Q E hr e0 hb r h => ?_⟩
  refine codeAny_mono (F.run A outer s H args us vs Q (fun _ _ _ => False) hr e0 hb r (sp' vs H Q E h)) fun r s' hq => ?_
  cases r with
  | error e =>
    obtain ⟨_, _, _, _, _, _, _, _, _, _, _, _, z⟩ := hq
    exact z.elim
  | ok fl => cases fl <;> exact hq
section
variable {X : Cx} {K : PySem.W.Frag} {W : WXA} {x : Str} {p pos : Pos} {e : Expr} {es : List Expr} {t : RA} {k : Nat} {f : Addr} {fd : FuncData} {ps : List Str} {asp : XSp}
end
section
variable {X : Cx} {K : PySem.W.Frag} {W : WXA} {x : Str} {p pos : Pos}
structure XcT (K : PySem.W.Frag) (mg : Str → Option Value) (x : Str) : Prop where
  ex : ∃ C, PySem.W.nsIn K mainGlobals x = some (some (.ref C)) ∧ mg x = some (.ref C) ∧ PySem.W.excIn K C [.type "ValueError", .type "Exception", .type "BaseException", .type "object"] "ValueError.__new__" = true ∧ PySem.W.keepIn K (.ref C) = true ∧
    PySem.W.subIn K (.ref C) (.type "BaseException") = some true ∧ PySem.W.typeIn K (.ref C) = some (.type "type")
end
section
variable {X : Cx} {e : Expr} {es : List Expr} {ta : TA} {p pos : Pos}
theorem pmk_oexN {CX : CXT} {x : Str} {C fI : Addr} {k : Nat} {fd : FuncData} {ps : List Str} {sp : Sp} {ds : List Value} {dvs : List V} (T : OexC X.K C) (iC : PySem.W.findIn X.K (.ref C) "__init__" = some (some (.ref fI))) (tI : PySem.W.typeIn X.K (.ref fI) = some (.type "function"))
    (F1 : FnOk X.prog X.w X.K X.mg X.base CX k fI fd ps sp) (hr : Room (k + 1) X.A) (hb : Binds X.K fd ps ds) (hd : Vals dvs ds) (hx : Passes CX X (fun _ _ _ => False)) (hg : Gl X x) (hm : X.mg x = some (.ref C)) (ha : PA X (e :: es) ta)
    (hdb : (x == ("__debug__" : Str)) = false := by decide) (he : starEach (e :: es) X.env = (false, eval e X.env) :: starEach es X.env := by rfl) (hpl : (backTo pos (starEach es X.env)).any (·.1) = false := by rfl) :
    L2N.PMk X (.Call (.Name x p) (e :: es) [] pos) (tMkO C sp dvs ta) := by
  intro pins s σ H Q I h
  obtain ⟨nm, q, N, bs, bm, sn, sub, ab, col, dd, k0, k1, k2, k3, k5, hC, hbm⟩ := T.cls
  refine wpAny_Call_Name_kw (ld_glob I hg hm ?_ hdb)
  refine PySem.W.callWith_K (h₀ := X.base) I.ok.mod.kin T.kC (thn (ha.run pos pins s σ H _ I h) fun us s1 ⟨vs, H1, I1, r1, hz, q1⟩ => ⟨I1.kIn, ?_⟩) he hpl
  show wpAny _ _ (call (.ref C) us) _ _ _
  obtain ⟨hp, g, dr, tk, os⟩ := s1
  have hsz : hp.objs.size ≤ hp.objs.size + 1 := Nat.le_succ _
  have hn : H1 (hp.objs.size + 1) = none := I1.hok.fresh hsz
  have hq := q1 (hp.objs.size + 1) hn
  have kk : ∀ b o, hp.get? b = some o → ((hp.push (PySem.W.kdv_tup us)).push (PySem.HandSPX.excO C hp.objs.size)).get? b = some o := fun b o e => Heap.get?_push_of_some _ (Heap.get?_push_of_some _ e)
  have hget : ((hp.push (PySem.W.kdv_tup us)).push (PySem.HandSPX.excO C hp.objs.size)).get? (hp.objs.size + 1) = some (PySem.HandSPX.excO C hp.objs.size) := by heap_get
  have I2 : Inv X pins σ (upd H1 (hp.objs.size + 1) (exo (hp.objs.size + 1) C none)) ⟨(hp.push (PySem.W.kdv_tup us)).push (PySem.HandSPX.excO C hp.objs.size), g, dr, tk, os⟩ :=
    I1.laid (t' := tk) (a := hp.objs.size + 1) (o := exo (hp.objs.size + 1) C none) (h' := (hp.push (PySem.W.kdv_tup us)).push (PySem.HandSPX.excO C hp.objs.size)) kk hsz (exo_ok hget)
  have r2 : Vals (V.ref (hp.objs.size + 1) :: (vs ++ dvs)) (Value.ref (hp.objs.size + 1) :: (us ++ ds)) := .cons rfl (r1.append hd)
  have hl : (Value.ref (hp.objs.size + 1) :: us ++ ds).length = ps.length := by
    have e := r2.length
    rw [F1.len _ _ _ _ hq] at e
    exact e.symm
  have hus : us.length ≤ sizeLine := by
    rw [← Paired.length r1, sizeLine_eq]
    omega
  refine wpAny_call (PySem.HandSPX.call_own F.excBase_ValueError (fun Y => PySem.HandSPX.refsVE_contains Y bm hbm) (I1.kIn _ _ hC) (PySem.W.looks_findIn I1.kIn iC) (fun self => PySem.W.bind_fn I1.kIn self tI) hus
    (codeAny_mono (F1.run _ X.stack _ _ ⟨Value.ref (hp.objs.size + 1) :: us, []⟩ (Value.ref (hp.objs.size + 1) :: (us ++ ds)) _ _ (fun _ _ _ => False) (hr.make C us []) (I2.env0.make C us []) (hb _ (Value.ref (hp.objs.size + 1) :: us) I2.kIn hl) r2 hq) fun r s' hq' => ?_))
  cases r with
  | error er => exact hx pins σ _ _ er s' I2 hq'
  | ok fl =>
    cases fl with
    | ret u =>
      obtain ⟨v, H2, os2, bare2, un2, hok2, rv, ev, d, fs, ea, ed, hd1, q2⟩ := hq'
      subst ev
      obtain ⟨h2, g2, d2, t2, os'⟩ := s'
      obtain ⟨t0, G, J, kG, ge, hoe, na⟩ := mk_end0 (d2 := d2) (t2 := t2) I1 hsz kk un2 hok2 os2 bare2 ea ed hd1
      refine ⟨rv, ⟨hp.objs.size + 1, _, _, ⟨G, g2, d2, t2, os'⟩, _, .ref C, some d, rfl, J, kG, ge, hoe, ⟨rfl, rfl, fun vs hv => ?_⟩, rfl, rfl, na, rfl, bare2, raises_own T.exC T.tyC, q2⟩⟩
      cases hv
      rfl
    | next => exact False.elim hq'
    | brk => exact False.elim hq'
    | cont => exact False.elim hq'
end
def spInit (C : Addr) : Sp := fun vs H Q _ => ∃ a v, vs = [.ref a, v] ∧ H a = some (exo a C none) ∧ ∀ dx, H dx = none → dx ≠ a → Q .non (upd (upd H dx (exd dx [(("row" : Str), v)])) a (exo a C (some dx)))
structure XrT (P : Program) (w : World) (K : PySem.W.Frag) (mg : Str → Option Value) (base : Heap) (x : Str) : Prop where
  ex : ∃ C fI fd, PySem.W.nsIn K mainGlobals x = some (some (.ref C)) ∧ mg x = some (.ref C) ∧ OexC K C ∧ PySem.W.findIn K (.ref C) "__init__" = some (some (.ref fI)) ∧ PySem.W.typeIn K (.ref fI) = some (.type "function") ∧ FnOk P w K mg base CX0 1 fI fd ["self", "row"] (spInit C) ∧ Binds K fd ["self", "row"] []
section
variable {X : Cx} {W : WXA} {x : Str} {e : Expr} {te : RE} {p pos : Pos}
def aRaiseR (W : WXA) (x : Str) (te : RE) : RS := fun _ ρ M => aCons te aNil ρ M fun ds M1 => on1 ds fun d => onI d fun r => W x (some r) M1
theorem as_raiseR {k : Nat} {pos' : Pos} (hc : X.calm = true) (tk : L2N.Takes X (liftW X.K W)) (T : XrT X.prog X.w X.K X.mg X.base x) (hr : Room k X.A) (hk : 2 ≤ k) (he : AE X e te) (hg : Gl X x := by rfl)
    (hdb : (x == ("__debug__" : Str)) = false := by decide) (hse : starEach [e] X.env = (false, eval e X.env) :: starEach [] X.env := by rfl) (hpl : (backTo pos (starEach [] X.env)).any (·.1) = false := by rfl) :
    AS X (.Raise (some (.Call (.Name x p) [e] [] pos)) none pos') (aRaiseR W x te) := by
  obtain ⟨C, fI, fd, hn, gC, o, iC, tI, F, hb⟩ := T.ex
  refine ps_imp (L2N.ps_raise hc tk (pmk_oexN o iC tI F (hr.mono hk) hb .nil pass0 hg gC (aa_cons he aa_nil (hs := hse)) hdb (he := hse) (hpl := hpl))) fun D σ H h => ?_
  obtain ⟨ρ, M, D', hr', hv, w, _⟩ := h
  show cA X.K (aCons te aNil) σ H _
  refine ⟨ρ, M, _, hr', hv, w, ?_⟩
  · intro vs H1 ds M1 t1 r1 v1 q
    obtain ⟨d, rfl, q⟩ := on1_ex q
    obtain ⟨r, rfl, q⟩ := onI_ex q
    obtain ⟨v, rfl, rv⟩ := reps1 r1
    have ev := rep_int_inv rv
    subst ev
    refine ⟨(show 1 ≤ 1000 by decide), fun a ha => ⟨a, .int r, rfl, upd_same, fun dx hdx hne => ⟨rfl, dx, [(("row" : Str), .int r)], upd_same, ?_, ?_, ?_⟩⟩⟩
    · rw [upd_ne hne, upd_same]
    · rw [upd_ne hne] at hdx; exact hdx
    · have hdx' : H1 dx = none := by rw [upd_ne hne] at hdx; exact hdx
      have eh : upd (del (upd (upd (upd H1 a (exo a C none)) dx (exd dx [(("row" : Str), .int r)])) a (exo a C (some dx))) a) dx (.xd [(("row" : Str), .int r)]) = upd H1 dx (.xd [(("row" : Str), .int r)]) := by
        funext b
        unfold upd del
        by_cases h1 : b = dx
        · rw [if_pos h1, if_pos h1]
        · rw [if_neg h1, if_neg h1]
          by_cases h2 : b = a
          · rw [if_pos h2, h2, ha]
          · rw [if_neg h2]
            show (if b = a then some (exo a C (some dx)) else if b = dx then some (exd dx [(("row" : Str), .int r)]) else if b = a then some (exo a C none) else H1 b) = H1 b
            rw [if_neg h2, if_neg h1, if_neg h2]
      rw [eh]
      exact ⟨x, some r, M1, ⟨⟨C, rfl, hn⟩, dx, rfl, upd_same⟩, v1.new hdx', q⟩
end
end HC
set_option maxHeartbeats 1000000
namespace HC
open PySem L2 PyProof.Rows
theorem tp_un {K : PySem.W.Frag} {fs ex : List Addr} {H H' : Hp} {h h' : Heap} (u : Un fs ex H H' h h') : Tp K H H' := by
  refine ⟨fun a vs q => ?_, fun a vs q => ?_, fun a vs ⟨o, q, hd⟩ => ⟨o, u.frzs _ _ _ q, hd⟩, fun a o v q => u.frzs _ _ _ q⟩
  · rcases q with (q | ⟨o, q⟩) | q
    · exact .inl (.inl (u.tups _ _ q))
    · exact .inl (.inr ⟨o, u.frzs _ _ _ q⟩)
    · exact .inr q
  · rcases q with ⟨o, q⟩ | q
    · exact .inl ⟨o, u.frzs _ _ _ q⟩
    · exact .inr q
theorem takes_tp {X : Cx} {K : PySem.W.Frag} {W : WXA} {E' : XK} (tk : L2N.Takes X (fun cls d _ H => E' cls d H)) (h : ∀ cls d σ H, liftW K W cls d σ H → Tp K X.H_0 H → E' cls d H) : L2N.Takes X (liftW K W) := fun u s' ⟨a, B, sI, pins, σ, H, cls, d, e, I, nb, up, sky, na, os, ag, w⟩ =>
  tk u s' ⟨a, B, sI, pins, σ, H, cls, d, e, I, nb, up, sky, na, os, ag, h cls d σ H w (tp_un I.base)⟩
theorem fnX {P : Program} {w : World} {K : PySem.W.Frag} {mg : Str → Option Value} {base : Heap} {qual : Str} {st : Stmt} {N ps : List Str} {x : Str} {f : Addr} {fd : FuncData} {k : Nat} {asp : XSp} {t : WXA → RS} (F : Fun K x qual st f fd) (S : FnScope N ps (defScope st)) (len : ∀ ds M Q E, asp ds M Q E → ds.length = ps.length)
    (body : ∀ (cdv : Value) (A : Around) (outer : List Env) (s : Shared) (H : Hp) (E : XK) (W : WXA), Room k (A.deeper (envOfC qual (defScope st) s.heap.objs.size f cdv)) →
      L2N.Takes (cxOf (L2N.CX P w) P w K mg base N qual (defScope st) f cdv A outer s H E) (liftW K W) → PassesOwn (model P w) (A.deeper (envOfC qual (defScope st) s.heap.objs.size f cdv)) (envOfC qual (defScope st) s.heap.objs.size f cdv) (cxOf (L2N.CX P w) P w K mg base N qual (defScope st) f cdv A outer s H E).xe →
      ASs (cxOf (L2N.CX P w) P w K mg base N qual (defScope st) f cdv A outer s H E) (defBody st) (t W))
    (spec : ∀ ds M Q E, asp ds M Q E → t (fun c f M => ∃ M', Sub M' M ∧ E c f M') (retD Q) (startA N.length ds) M) : FnX P w K mg base (k + 1) f fd ps asp := by
  obtain ⟨oc, od, kV, doc, pm, an, cdv0, ct, osl, rfl, lk, hcd⟩ := F.ex
  refine fn_of lk hcd S (fun vs H Q' E' ⟨ds, M, Q, E, r, _, q, _⟩ => by rw [← r.length]; exact len ds M Q E q) fun A outer s H vs Q' E' hr ⟨ds, M, Q, E, r, hv, q, kk, ke⟩ => ?_
  have tk0 : L2N.Takes (cxOf (L2N.CX P w) P w K mg base N qual (defScope st) f cdv0 A outer s H E') (fun cls d _ H => E' cls d H) := L2N.takes_of rfl rfl rfl rfl
  have tk := takes_tp (K := K) (W := fun c f M => ∃ M', Sub M' M ∧ E c f M') tk0 fun cls d σ H1 ⟨c, f, M1, hc, hv1, M2, sb, he⟩ tp => ke c f cls d M2 H1 hc tp (hv1.sub sb) he
  refine ⟨_, body cdv0 A outer s H E' _ hr tk (L2.passes_of (K := fun e s'' => L2N.CX P w outer H s E' e s'') rfl), startA N.length ds, M, retD Q, repE_start r, hv, spec ds M Q E q, ?_, ?_, ?_, ?_⟩
  · rintro σ H' ρ M' tp _ v ⟨M'', sb, q'⟩
    exact kk _ _ _ M'' tp rep_non (v.sub sb) q'
  · rintro v H' d M' tp rd vv ⟨M'', sb, q'⟩
    exact kk _ _ _ M'' tp rd (vv.sub sb) q'
  · rintro _ _ _ _ _ _ _ h
    exact h.elim
  · rintro _ _ _ _ _ _ _ h
    exact h.elim
abbrev REX := Env' → Ms → DK → WXA → Prop
abbrev RSX := WXA → RS
def LkX (K : PySem.W.Frag) (σ : L2.St) (H : Hp) (E : WXA) (W : L2.WX) : Prop := ∀ c f cls d H' M', Tp K H H' → RepX K H' c f cls d → View K M' H' → E c f M' → W cls d σ H'
theorem LkX.up {K : PySem.W.Frag} {σ : L2.St} {H H1 : Hp} {E : WXA} {W : L2.WX} (l : LkX K σ H E W) (t : Tp K H H1) : LkX K σ H1 E W := fun c f cls d H' M' t' => l c f cls d H' M' (t.trans t')
def cEX (K : PySem.W.Frag) (W : L2.WX) (t : REX) : TE := fun σ H Q' => ∃ ρ M Q E, RepE K H ρ σ ∧ View K M H ∧ t ρ M Q E ∧ LkV K H Q Q' ∧ LkX K σ H E W
def cSX (K : PySem.W.Frag) (W : L2.WX) (t : RSX) : TS := fun D' σ H => ∃ ρ M D E, RepE K H ρ σ ∧ View K M H ∧ t E D ρ M ∧ LkD K H D D' ∧ LkX K σ H E W
def AEX (X : Cx) (W : L2.WX) (e : Expr) (t : REX) : Prop := PE X e (cEX X.K W t)
def ASX (X : Cx) (W : L2.WX) (st : Stmt) (t : RSX) : Prop := PS X st (cSX X.K W t)
def ASXs (X : Cx) (W : L2.WX) (st : List Stmt) (t : RSX) : Prop := PSs X st (cSX X.K W t)
section
variable {X : Cx} {W : L2.WX} {x : Str} {p pos : Pos} {e : Expr} {es : List Expr} {t : RA} {k : Nat} {f : Addr} {fd : FuncData} {ps : List Str} {asp : XSp}
def axCall (asp : XSp) (t : RA) : REX := fun ρ M Q E => t ρ M fun ds M1 => asp ds M1 Q E
theorem axcall_imp {K : PySem.W.Frag} : ∀ σ H Q, cEX K W (axCall asp t) σ H Q → tCallSD (cSpX K asp) [] (WE W) (cA K t) σ H Q := fun σ H Q' ⟨ρ, M, Q, E, hr, hv, q, kk, kx⟩ => seqA hr hv q fun vs H1 ds M1 t1 r1 v1 q1 =>
  ⟨ds, M1, Q, E, by rw [List.append_nil]; exact r1, v1, q1, kk.up t1, fun c f cls d M2 H2 hc t2 v2 w => kx c f cls d H2 M2 (t1.trans t2) hc v2 w⟩
theorem ax_call (tk : L2N.Takes X W) (F : FnX X.prog X.w X.K X.mg X.base k f fd ps asp) (hr : Room k X.A) (hm : X.mg x = some (.ref f)) (hk : PySem.W.keepIn X.K (.ref f) = true) (hb : Binds X.K fd ps []) (ha : AA X (e :: es) t) (hg : Gl X x := by rfl)
    (hdb : (x == ("__debug__" : Str)) = false := by decide) (he : starEach (e :: es) X.env = (false, eval e X.env) :: starEach es X.env := by rfl) (hpl : (backTo pos (starEach es X.env)).any (·.1) = false := by rfl) : AEX X W (.Call (.Name x p) (e :: es) [] pos) (axCall asp t) :=
  pe_imp (pe_callSD (E := WE W) F hr hg hm hk hb .nil (L2N.passAt tk) ha hdb he hpl) axcall_imp
variable {te : REX} {c : Expr} {tc : RT} {a b : List Stmt} {ta tb : RSX} {st : Stmt}
def sxExpr (te : REX) : RSX := fun E D ρ M => te ρ M (fun _ M1 => D.nx ρ M1) E
theorem sx_expr (he : AEX X W e te) (hs : swapsWith e none pos.line X.env = pure false := by rfl) : ASX X W (.Expr e pos) (sxExpr te) :=
  ps_imp (ps_expr he hs) fun D' σ H ⟨ρ, M, D, E, hr, hv, q, k, kx⟩ => ⟨ρ, M, _, E, hr, hv, q, fun v H1 d M1 t1 r1 v1 q1 => k.nx _ _ _ _ t1 (hr.mono t1) v1 q1, kx⟩
theorem sxs_one (h : ASX X W st ta) : ASXs X W [st] ta := pss_one h
end
end HC
set_option maxHeartbeats 2000000
namespace HC
open PySem PySem.Spec L2 PyProof.Rows
section
variable {X : Cx} {pins : List (Addr × Obj)} {σ : L2.St} {H : Hp} {s : Shared} {a dx : Addr} {oe od : Obj} {vs : Array Value} {fs : List (Str × V)}
def anyO : HO := .ext fun _ => True
theorem anyO_ok {P : Program} {w : World} {H : Hp} {h : Heap} (e : h.get? a = some oe) : ObjOk P w H h a anyO := ⟨trivial, ⟨oe, e⟩, fun _ _ _ _ => trivial⟩
theorem inv_track (I : Inv X pins σ H s) (ha : s.heap.get? a = some oe) (hd : oe.data = .fields vs) (na : H a = none) (nL : a ≠ X.env.locals) (n0 : X.s_0.heap.get? a = none) (np : ∀ p ∈ X.pn ++ pins, p.1 ≠ a) : Inv X pins σ (upd H a (.frz oe anyO)) s := by
  refine ⟨I.ok, I.os, I.bare, ⟨I.base.keep, I.base.slot, fun b o e n hx => ?_, I.base.there, fun b xs e => ?_, fun b o u e => ?_, fun b ps e => ?_⟩, I.loc, I.cell, ?_, fun x c e => ?_, fun p hp => ?_, fun b u e => ?_, I.len⟩
  · have hb : b ≠ a := fun z => by rw [z, n0] at e; cases e
    rw [upd_ne hb]
    exact I.base.free b o e n hx
  · have q := I.base.tups b xs e
    rw [upd_ne (ne_of_none q na)]
    exact q
  · have q := I.base.frzs b o u e
    rw [upd_ne (ne_of_none q na)]
    exact q
  · obtain ⟨m, q⟩ := I.base.tbls b ps e
    exact ⟨m, by rw [upd_ne (ne_of_none q na)]; exact q⟩
  · rw [upd_ne nL.symm]
    exact I.free
  · have hc : c ≠ a := fun z => by
      obtain ⟨v, o, ho, hv⟩ := I.cell x c e
      rw [z, ha] at ho
      cases ho
      rw [hd] at hv
      cases hv
    rw [upd_ne hc]
    exact I.freeC x c e
  · obtain ⟨e, n, r⟩ := I.pin p hp
    exact ⟨e, by rw [upd_ne (np p hp)]; exact n, r⟩
  · by_cases hb : b = a
    · subst hb
      rw [upd_same] at e
      cases e
      exact ⟨ha, anyO_ok ha⟩
    · rw [upd_ne hb] at e
      exact (I.hok b u e).stay (fun c v _ q => q) (fun c q => by rw [upd_ne (ne_of_none q na)]; exact q) fun c xs q => by rw [upd_ne (ne_of_none q na)]; exact q
theorem inv_frzX (I : Inv X pins σ H s) (hx : H dx = some (.xd fs)) (hd : s.heap.get? dx = some od) : Inv X pins σ (upd H dx (.frz od (.xd fs))) s := by
  have ne : ∀ {b : Addr} {u : HO}, H b = some u → u ≠ .xd fs → b ≠ dx := fun {b u} q hu z => by
    rw [z, hx] at q
    exact hu (Option.some.inj q).symm
  have nn : ∀ {b : Addr}, H b = none → b ≠ dx := fun {b} q z => by rw [z, hx] at q; cases q
  refine ⟨I.ok, I.os, I.bare, ⟨I.base.keep, I.base.slot, fun b o e n hx => ?_, I.base.there, fun b xs e => ?_, fun b o u e => ?_, fun b ps e => ?_⟩, I.loc, I.cell, ?_, fun x c e => ?_, fun p hp => ?_, fun b u e => ?_, I.len⟩
  · have q := I.base.free b o e n hx
    rw [upd_ne (nn q)]
    exact q
  · have q := I.base.tups b xs e
    rw [upd_ne (ne q (fun z => nomatch z))]
    exact q
  · have q := I.base.frzs b o u e
    rw [upd_ne (ne q (fun z => nomatch z))]
    exact q
  · obtain ⟨m, q⟩ := I.base.tbls b ps e
    exact ⟨m, by rw [upd_ne (ne q (fun z => nomatch z))]; exact q⟩
  · rw [upd_ne (nn I.free)]
    exact I.free
  · rw [upd_ne (nn (I.freeC x c e))]
    exact I.freeC x c e
  · obtain ⟨e, n, r⟩ := I.pin p hp
    exact ⟨e, by rw [upd_ne (nn n)]; exact n, r⟩
  · by_cases hb : b = dx
    · subst hb
      rw [upd_same] at e
      cases e
      have q : ObjOk X.prog X.w H s.heap b (.xd fs) := I.hok b _ hx
      exact ⟨hd, ObjOk.stay q (fun c v _ q => q) (fun c q => by rw [upd_ne (ne q (fun z => nomatch z))]; exact q) fun c xs q => by rw [upd_ne (ne q (fun z => nomatch z))]; exact q⟩
    · rw [upd_ne hb] at e
      exact (I.hok b u e).stay (fun c v _ q => q) (fun c q => by rw [upd_ne (ne q (fun z => nomatch z))]; exact q) fun c xs q => by rw [upd_ne (ne q (fun z => nomatch z))]; exact q
end
theorem inv_suiteT {X : Cx} {pins : List (Addr × Obj)} {σ : L2.St} {H : Hp} {s : Shared} (I : Inv X pins σ H s) (a : Addr) : Inv (X.suite a (X.pn ++ pins)) [] σ H s :=
  ⟨I.ok.suite _ _, I.os, I.bare, I.base, I.loc, I.cell, I.free, I.freeC, fun p hp => I.pin p (by rw [List.append_nil] at hp; exact hp), I.hok, I.len⟩
theorem inv_unsuiteT {X : Cx} {pins pn' : List (Addr × Obj)} {σ : L2.St} {H : Hp} {s : Shared} {a : Addr} (I : Inv (X.suite a (X.pn ++ pins)) pn' σ H s) (ok : X.Ok) : Inv X pins σ H s :=
  ⟨ok, I.os, I.bare, I.base, I.loc, I.cell, I.free, I.freeC, fun p hp => I.pin p (List.mem_append_left _ hp), I.hok, I.len⟩
def caughtH (H : Hp) (a : Addr) (oe : Obj) (d : Option Addr) (od : Obj) (fs : List (Str × V)) : Hp := match d with
  | none => upd H a (.frz oe anyO)
  | some dx => upd (upd H dx (.frz od (.xd fs))) a (.frz oe anyO)
theorem inv_caught {X : Cx} {pins : List (Addr × Obj)} {σ : L2.St} {H : Hp} {s : Shared} {a : Addr} {oe : Obj} {vs : Array Value} {d : Option Addr} (I : Inv X pins σ H s) (ha : s.heap.get? a = some oe) (hd : oe.data = .fields vs) (na : H a = none) (nL : a ≠ X.env.locals) (n0 : X.s_0.heap.get? a = none) (npin : ∀ p ∈ X.pn ++ pins, p.1 ≠ a)
    (hdx : ∀ dx, d = some dx → ∃ fs, H dx = some (.xd fs)) : ∃ od fs, (∀ dx, d = some dx → H dx = some (.xd fs)) ∧ Inv X pins σ (caughtH H a oe d od fs) s := by
  cases d with
  | none => exact ⟨oe, [], (fun dx z => by cases z), inv_track I ha hd na nL n0 npin⟩
  | some dx =>
    obtain ⟨fs, hfs⟩ := hdx dx rfl
    obtain ⟨od, hod⟩ := objOk_get (I.hok dx _ hfs)
    have hne : a ≠ dx := fun z => by rw [z, hfs] at na; cases na
    exact ⟨od, fs, (fun dx' z => by cases z; exact hfs), inv_track (inv_frzX I hfs hod) ha hd (by rw [upd_ne hne]; exact na) nL n0 npin⟩
def wAsT (K : PySem.W.Frag) (c : Value) (i : Nat) (ts : TS) (Wout : WX) (D : Ends) : WX := fun cls d σ H =>
  ∃ b, PySem.W.exmOne K cls c = some b ∧ (b = true → ∀ (a : Addr) (oe : Obj) (od : Obj) (fs : List (Str × V)), H a = none → L2.Zc cls d oe → (∃ vs, oe.data = .fields vs) → (∀ dx, d = some dx → H dx = some (.xd fs)) →
    ts { nx := fun σ' H' => D.nx (σ'.set i none) H', rt := D.rt, bk := fun σ' H' => D.bk (σ'.set i none) H', ct := fun σ' H' => D.ct (σ'.set i none) H' } (σ.set i (some (.ref a))) (caughtH H a oe d od fs)) ∧
    (b = true → ∀ dx, d = some dx → ∃ fs, H dx = some (.xd fs)) ∧ (b = false → Wout cls d σ H)
section
variable {X : Cx} {x n : Str} {c : Value} {i : Nat} {body suite : List Stmt} {b₀ : Stmt} {np pos pos' : Pos} {tb : WX → TS} {ts : TS} {Wout : WX}
theorem ps_tryT (hs : X.stack = X.env :: X.outer) (hf : X.env.frame = some X.env.locals) (hex : X.ex = []) (hN : X.N.Nodup) (hi : X.N[i]? = some n) (hln : X.env.kindOf n = some .local) (hc : Names X x c) (tk : L2.Takes X Wout)
    (hb : ∀ (W : WX) (pn : List (Addr × Obj)) (xe : Value → Shared → Prop), L2.Takes (X.tr pn xe) W → PassesOwn (model X.prog X.w) X.A X.env xe → PSs (X.tr pn xe) body (tb W))
    (hsu : ∀ (a : Addr) (pn : List (Addr × Obj)), PSs (X.suite a pn) (b₀ :: suite) ts) :
    PS X (.Try body [.ExceptHandler (some (.Name x np)) (some n) (b₀ :: suite) pos'] [] [] pos) (fun D σ H => tb (wAsT X.K c i ts Wout D) D σ H) := by
  refine ⟨fun pins s σ H D I h => ?_⟩
  have ok := I.ok
  have hfr : X.A.frames = some (X.env :: X.outer) := by rw [ok.frames, hs]
  have hloc : Loc X.env.scope n := .inl hln
  refine wpAny_Try_except ?_
  refine wpAny_mono ((hb (wAsT X.K c i ts Wout D) (X.pn ++ pins) (fun e s₁ => wpAny (model X.prog X.w) X.A (noteFrame e X.env) (fun _ s₂ => wpAny (model X.prog X.w) X.A (setFlight e none) (fun _ s₃ =>
    wpAny (model X.prog X.w) X.A (handleBy e X.env [.ExceptHandler (some (.Name x np)) (some n) (b₀ :: suite) pos']) (SP X pins D) X.xe s₃) X.xe s₂) X.xe s₁) (fun u s' xx => ?_) PassesOwn.looking).run [] s σ H D (I.toTry _) h) (fun f s1 hsp => ?_) (fun e s1 he => he)
  ·
    obtain ⟨a, B, sI, pins', σ', H', cls, d, rfl, J', nb, up, sky, na, os, ag, b, hb1, hyes, hdx, hno⟩ := xx
    have J : Inv X pins σ' H' sI := J'.ofTry ok
    have sky' : Sky B (X.env :: X.outer) a (L2.Zc cls d) X.env.locals s'.heap := by rw [← hs]; exact sky
    show wpAny (model X.prog X.w) X.A (noteFrame (.ref a) X.env) _ _ _
    refine L2.Sky.land L2.Zc.steady hfr hf sky' fun h3 fl3 up3 => ?_
    have J3 : Inv X pins σ' H' { s' with heap := h3 } := J.landed nb fl3.1 (up.trans up3) os ag
    obtain ⟨oe3, vs3, he3, hz3, hd3⟩ := fl3.there
    have notFr : ∀ {h : Heap} {o : Obj} {vs : Array Value}, h.FunFrames B (X.env :: X.outer) → h.get? a = some o → o.data = .fields vs → a ∉ frs (X.env :: X.outer) := fun {h o vs} ff e dd hm => by
      obtain ⟨_, o', e', hnf⟩ := ff.mem hm
      rw [e] at e'; cases e'
      exact hnf _ dd
    have nfr := notFr fl3.2.2.1 he3 hd3
    have nL : a ≠ X.env.locals := fun z => nfr (List.mem_filterMap.mpr ⟨X.env, List.mem_cons_self, by rw [hf, z]⟩)
    have nF : a ∉ X.fs := fun hm => by
      obtain ⟨e, he, q⟩ := List.mem_filterMap.mp hm
      exact nfr (List.mem_filterMap.mpr ⟨e, List.mem_cons_of_mem _ he, q⟩)
    have nfs : a ∉ frs X.stack := by rw [hs]; exact nfr
    have nI : sI.heap.get? a = none := by
      cases q : sI.heap.get? a with
      | none => rfl
      | some o =>
        have z := nb a o q nfs
        rw [fl3.2.1] at z
        cases z
    have n0 : X.s_0.heap.get? a = none := by
      cases q : X.s_0.heap.get? a with
      | none => rfl
      | some o =>
        obtain ⟨o', z⟩ := J.base.there a o q (by rw [hex]; exact fun z => nomatch z)
        rw [nI] at z
        cases z
    have npin : ∀ p ∈ X.pn ++ pins, p.1 ≠ a := fun p hp z => by
      have := (J.pin p hp).1
      rw [z, nI] at this
      cases this
    have S3 := J3.suite he3 hd3 na nL nF
    refine wpAny_handleBy_cons (codeAny_handlers_test ?_) (by intro q; cases q)
    have LT : PySem.W.Looks (model X.prog X.w) h3 (typeOf (.ref a)) cls := fun A Q E s k q => wpAny_typeOf_ref (k _ _ he3) (by rw [hz3.1]; exact q)
    have LM := PySem.W.exm_one (M := model X.prog X.w) (J3.kIn) LT hb1
    have test : ∀ {Q : Value → Shared → Prop} {E : Value → Shared → Prop}, Q c { s' with heap := h3 } → wpAny (model X.prog X.w) (X.A.mark (some (.ref a))) (eval (.Name x np) X.env) Q E { s' with heap := h3 } := fun {Q E} q => by
      obtain ⟨hg, hdbg, hm | ⟨hm, hv, hnn⟩⟩ := hc
      · exact ld_glob (X := X.suite a ((a, oe3) :: (X.pn ++ pins))) S3 hg hm q hdbg
      · exact ld_blt (X := X.suite a ((a, oe3) :: (X.pn ++ pins))) S3 hg hm hv q hnn hdbg
    refine test (LM.here ?_)
    cases b with
    | true =>
      refine codeAny_handlers_suite_as ?_
      refine HandSPX.lands_againZ fl3 fun h4 fl4 up4 => ?_
      have J4 : Inv X pins σ' H' { s' with heap := h4 } := J.landed nb fl4.1 ((up.trans up3).trans up4) os ag
      obtain ⟨oe4, vs4, he4, hz4, hd4⟩ := fl4.there
      obtain ⟨od, fs, hfs, J5⟩ := inv_caught J4 he4 hd4 na nL n0 npin (fun dx z => hdx rfl dx z)
      have S4 := inv_suiteT J5 a
      refine store_ok (X := X.suite a (X.pn ++ pins)) (v := .ref a) S4 hN hi hloc rfl (fun s5 S5 => ?_) (.inr hln)
      refine wpAny_mono ((hsu a (X.pn ++ pins)).run [] s5 _ _ _ S5 (hyes rfl a oe4 od fs na hz4 ⟨_, hd4⟩ hfs)) (fun f s6 hsp => ?_) (fun _ _ z => False.elim z)
      have end_ : ∀ {σ6 : L2.St} {H6 : Hp} {Q : Shared → Prop}, Inv (X.suite a (X.pn ++ pins)) [] σ6 H6 s6 → (∀ s7, Inv X pins (σ6.set i none) H6 s7 → Q s7) →
          wpAny (model X.prog X.w) X.A (do bindName X.env n .none; unbindBehindTheSuite X.env n pos') (fun _ s7 => Q s7) X.xe s6 := fun {σ6 H6 Q} S6 hq => gone_ok (inv_unsuiteT S6 ok) hN hi hln hq
      cases f with
      | next =>
        obtain ⟨σ6, H6, S6, q6⟩ := hsp
        exact end_ S6 fun s7 J7 => ⟨_, _, J7, q6⟩
      | brk =>
        obtain ⟨σ6, H6, S6, q6⟩ := hsp
        exact end_ S6 fun s7 J7 => ⟨_, _, J7, q6⟩
      | cont =>
        obtain ⟨σ6, H6, S6, q6⟩ := hsp
        exact end_ S6 fun s7 J7 => ⟨_, _, J7, q6⟩
      | ret u =>
        obtain ⟨v6, σ6, H6, S6, r6, q6⟩ := hsp
        exact end_ S6 fun s7 J7 => ⟨_, _, _, J7, r6, q6⟩
    | false =>
      show wpAny _ X.A (handleBy (.ref a) X.env []) _ _ _
      refine wpAny_handleBy_nil ?_
      obtain ⟨k1, k2, k3, oe, vs, T, oT, ts', he, hz, hd, h1, hr⟩ := id fl3
      unfold PySem.passOn
      refine wpAny_bind (wpAny_field he hd h1 ?_)
      rw [if_neg (show ¬ ((Value.ref T == Value.none) = true) from by simp)]
      have fin : wpAny (model X.prog X.w) X.A (setFlight (.ref a) X.env.frame) (fun _ s4 => wpAny (model X.prog X.w) X.A (throw (.ref a) : Sem Flow) (SP X pins D) X.xe s4) X.xe { s' with heap := h3 } := by
        rw [hf]
        refine HandSPX.setFlight_upZ fl3 fun h4 hh4 up4 => wpAny_throw (tk _ _ ?_)
        exact ⟨a, B, sI, pins, σ', H', cls, d, rfl, J, nb, (up.trans up3).trans up4, .inr (.inr (by rw [hs]; exact hh4)), na, os, ag, hno rfl⟩
      first
        | exact wpAny_bind (wpAny_pure (wpAny_bind fin))
        | exact wpAny_bind fin
  · cases f with
    | next =>
      obtain ⟨σ', H', J', q⟩ := hsp
      exact wpAny_execs_nil ⟨σ', H', J'.ofTry ok, q⟩
    | brk =>
      obtain ⟨σ', H', J', q⟩ := hsp
      exact ⟨σ', H', J'.ofTry ok, q⟩
    | cont =>
      obtain ⟨σ', H', J', q⟩ := hsp
      exact ⟨σ', H', J'.ofTry ok, q⟩
    | ret u =>
      obtain ⟨v, σ', H', J', r, q⟩ := hsp
      exact ⟨v, σ', H', J'.ofTry ok, r, q⟩
end
end HC
set_option maxHeartbeats 2000000
namespace HC
open PySem PySem.Spec L2 PyProof.Rows
def XM (K : PySem.W.Frag) (cv : Value) (xt : List (Str × Bool)) : Prop := ∀ c b, xt.lookup c = some b → ∃ C, PySem.W.nsIn K mainGlobals c = some (some (.ref C)) ∧ PySem.W.exmOne K (.ref C) cv = some b
theorem xm_nil {K : PySem.W.Frag} {cv : Value} : XM K cv [] := fun c b h => by cases h
theorem xm_cons {K : PySem.W.Frag} {cv : Value} {x : Str} {b : Bool} {xt : List (Str × Bool)} (h : ∃ C, PySem.W.nsIn K mainGlobals x = some (some (.ref C)) ∧ PySem.W.exmOne K (.ref C) cv = some b) (r : XM K cv xt) : XM K cv ((x, b) :: xt) := fun c d e => by
  rw [List.lookup_cons] at e
  split at e
  · rename_i q
    have q : c = x := by simpa using q
    subst q
    cases e
    exact h
  · exact r c d e
theorem tp_xd {K : PySem.W.Frag} {H : Hp} {a : Addr} {fs : List (Str × V)} {o : HO} (h : H a = some (.xd fs)) : Tp K H (upd H a o) := by
  have ne : ∀ {b : Addr} {u : HO}, H b = some u → u ≠ .xd fs → b ≠ a := fun {b u} q hu z => by
    rw [z, h] at q
    exact hu (Option.some.inj q).symm
  refine ⟨fun b vs q => ?_, fun b vs q => ?_, fun b vs ⟨ob, q, hd⟩ => ⟨ob, (upd_ne (ne q (fun z => nomatch z))).trans q, hd⟩, fun b o u q => (upd_ne (ne q (fun z => nomatch z))).trans q⟩
  · rcases q with (q | ⟨ob, q⟩) | q
    · exact .inl (.inl ((upd_ne (ne q (fun z => nomatch z))).trans q))
    · exact .inl (.inr ⟨ob, (upd_ne (ne q (fun z => nomatch z))).trans q⟩)
    · exact .inr q
  · rcases q with ⟨ob, q⟩ | q
    · exact .inl ⟨ob, (upd_ne (ne q (fun z => nomatch z))).trans q⟩
    · exact .inr q
theorem repc_xd {K : PySem.W.Frag} {H : Hp} {a : Addr} {fs : List (Str × V)} {c : Cell} (h : H a = some (.xd fs)) : ¬ RepC K H a c := fun r => by
  cases c with
  | lst ds => obtain ⟨vs, e, _⟩ := r; rw [h] at e; cases e
  | dic ds => obtain ⟨vs, e, _⟩ := r; rw [h] at e; cases e
  | dit ds => obtain ⟨vs, e, _⟩ := r; rw [h] at e; cases e
  | fdc ds => obtain ⟨vs, o, e, _⟩ := r; rw [h] at e; cases e
  | obj C ds => obtain ⟨C2, dx, vs, _, e, _⟩ := r; rw [h] at e; cases e
  | tab x => obtain ⟨_, ps, e, _⟩ := r; rw [h] at e; cases e
  | cod q => have r : H a = some (LamX.CodeO a q) := r; rw [h] at r; cases r
theorem view_xd {K : PySem.W.Frag} {M : Ms} {H : Hp} {a : Addr} {fs : List (Str × V)} {o : HO} (v : View K M H) (h : H a = some (.xd fs)) : View K M (upd H a o) := fun b c e => by
  have hb : b ≠ a := fun z => repc_xd h (by rw [z] at e; exact v a c e)
  refine (v b c e).keep (tp_xd h) (upd_ne hb) fun d u q hu => (upd_ne (fun z => ?_)).trans q
  subst z
  rw [h] at q
  cases q
  rcases hu with ⟨_, z⟩ | ⟨_, z⟩ <;> cases z
theorem caught_tp {K : PySem.W.Frag} {H : Hp} {a : Addr} {oe od : Obj} {d : Option Addr} {fs : List (Str × V)} (na : H a = none) (hfs : ∀ dx, d = some dx → H dx = some (.xd fs)) : Tp K H (caughtH H a oe d od fs) := by
  cases d with
  | none => exact Tp.new na
  | some dx =>
    have hne : a ≠ dx := fun z => by have := hfs dx rfl; rw [← z, na] at this; cases this
    exact (tp_xd (hfs dx rfl)).trans (Tp.new (by rw [upd_ne hne]; exact na))
theorem caught_view {K : PySem.W.Frag} {M : Ms} {H : Hp} {a : Addr} {oe od : Obj} {d : Option Addr} {fs : List (Str × V)} (v : View K M H) (na : H a = none) (hfs : ∀ dx, d = some dx → H dx = some (.xd fs)) : View K M (caughtH H a oe d od fs) := by
  cases d with
  | none => exact v.new na
  | some dx =>
    have hne : a ≠ dx := fun z => by have := hfs dx rfl; rw [← z, na] at this; cases this
    exact (view_xd v (hfs dx rfl)).new (by rw [upd_ne hne]; exact na)
theorem caught_rep {K : PySem.W.Frag} {H : Hp} {a : Addr} {oe od : Obj} {d : Option Addr} {fs : List (Str × V)} {c : Str} {f : Option Int} {cls : Value} (rx : RepX K H c f cls d) (na : H a = none) (hz : L2.Zc cls d oe) (hv : ∃ vs, oe.data = .fields vs) (hfs : ∀ dx, d = some dx → H dx = some (.xd fs)) : SqX K (caughtH H a oe d od fs) a c f := by
  obtain ⟨⟨C, rfl, hn⟩, hf⟩ := rx
  have e1 : caughtH H a oe d od fs a = some (.frz oe anyO) := by cases d <;> exact upd_same
  refine ⟨C, oe, anyO, hn, e1, hz.1, hv, ?_⟩
  cases f with
  | none =>
    have hf : d = none := hf
    exact hz.2.trans hf
  | some r =>
    obtain ⟨dx, rfl, q⟩ := hf
    have q2 := hfs dx rfl
    rw [q2] at q
    cases q
    have hne : dx ≠ a := fun z => by rw [← z, q2] at na; cases na
    exact ⟨dx, od, hz.2, (upd_ne hne).trans upd_same⟩
def aTryAs (tb : RSX) (xt : List (Str × Bool)) (i : Nat) (ts : RS) (W : WXA) : RS := fun D ρ M => tb (fun c f M1 => onS (xt.lookup c) fun b => onIf b
  (ts { nx := fun ρ' M' => D.nx (ρ'.set i none) M', rt := D.rt, bk := fun ρ' M' => D.bk (ρ'.set i none) M', ct := fun ρ' M' => D.ct (ρ'.set i none) M' } (ρ.set i (some (.exc c f))) M1) (W c f M1)) D ρ M
section
variable {X : Cx} {x n : Str} {c : Value} {body suite : List Stmt} {b₀ : Stmt} {np pos pos' : Pos} {tb : RSX} {ts : RS} {W : WXA} {xt : List (Str × Bool)}
theorem as_tryAs (i : Nat) (hc : Names X x c) (tk : L2.Takes X (liftW X.K W)) (xm : XM X.K c xt) (hN : X.N.Nodup)
    (hb : ∀ (Wk : L2.WX) (pn : List (Addr × Obj)) (xe : Value → Shared → Prop), L2.Takes (X.tr pn xe) Wk → ASXs (X.tr pn xe) Wk body tb)
    (hsu : ∀ (a : Addr) (pn : List (Addr × Obj)), ASs (X.suite a pn) (b₀ :: suite) ts)
    (hs : X.stack = X.env :: X.outer := by rfl) (hf : X.env.frame = some X.env.locals := by rfl) (hex : X.ex = [] := by rfl) (hi : X.N[i]? = some n := by rfl) (hln : X.env.kindOf n = some .local := by rfl) :
    AS X (.Try body [.ExceptHandler (some (.Name x np)) (some n) (b₀ :: suite) pos'] [] [] pos) (aTryAs tb xt i ts W) :=
  ps_imp (ps_tryT (tb := fun Wk => cSX X.K Wk tb) (ts := cS X.K ts) hs hf hex hN hi hln hc tk (fun Wk pn xe tk2 _ => hb Wk pn xe tk2) hsu) fun D' σ H ⟨ρ, M, D, hr, hv, q, k⟩ => ⟨ρ, M, D, _, hr, hv, q, k, fun cc f cls d H1 M1 tp rx v1 e => by
    obtain ⟨b, hb1, e⟩ := onS_ex e
    obtain ⟨C, hC, hx⟩ := xm cc b hb1
    have ecls : cls = .ref C := by
      obtain ⟨⟨C', rfl, hC'⟩, _⟩ := rx
      rw [hC] at hC'
      cases hC'
      rfl
    refine ⟨b, by rw [ecls]; exact hx, ?_, ?_, ?_⟩
    · intro hbt a oe od fs na hz hfd hfs
      subst hbt
      have t2 := caught_tp (K := X.K) (oe := oe) (od := od) na hfs
      have t3 := tp.trans t2
      refine ⟨ρ.set i (some (.exc cc f)), M1, _, (hr.mono t3).set i (rep_exc (caught_rep rx na hz hfd hfs)), caught_view v1 na hfs, e, ?_, k.rt.up t3, ?_, ?_⟩
      · exact fun σ' H' ρ' M' t r v q => k.nx _ _ _ _ (t3.trans t) (r.drop i none) v q
      · exact fun σ' H' ρ' M' t r v q => k.bk _ _ _ _ (t3.trans t) (r.drop i none) v q
      · exact fun σ' H' ρ' M' t r v q => k.ct _ _ _ _ (t3.trans t) (r.drop i none) v q
    · intro _ dx hd
      obtain ⟨_, hf⟩ := rx
      cases f with
      | none =>
        have hf : d = none := hf
        rw [hf] at hd
        cases hd
      | some r =>
        obtain ⟨dx', e', q⟩ := hf
        rw [e'] at hd
        cases hd
        exact ⟨_, q⟩
    · intro hbf
      subst hbf
      exact ⟨cc, f, M1, rx, v1, e⟩⟩
end
structure XcK (K : PySem.W.Frag) (C : Addr) : Prop where
  cl : (PySem.W.clsIn K C).isSome = true
  ga : PySem.W.findIn K (.ref C) "__getattribute__" = some (some (.builtin "BaseException.__getattribute__"))
  gg : PySem.W.findIn K (.ref C) "__getattr__" = some none
  sb : PySem.W.subIn K (.ref C) (.type "BaseException") = some true
  kl : PySem.W.findIn K (.ref C) "__class__" = some (some (.builtin "object.__class__"))
  sp : PySem.W.specialIn K (.builtin "object.__class__") "__get__" = some (some (.builtin "getset_descriptor.__get__"))
  tk : PySem.W.takesIn K (.builtin "object.__class__") = some true
  mr : PySem.W.mroIn K C (.type "object") = some true
def XI (K : PySem.W.Frag) (cv : Value) (xt : List (Str × Bool)) : Prop := ∀ c b, xt.lookup c = some b → ∃ C, PySem.W.nsIn K mainGlobals c = some (some (.ref C)) ∧ PySem.W.kitOne K (.ref C) cv = some b ∧ XcK K C
theorem xi_nil {K : PySem.W.Frag} {cv : Value} : XI K cv [] := fun c b h => by cases h
theorem xi_cons {K : PySem.W.Frag} {cv : Value} {x : Str} {b : Bool} {xt : List (Str × Bool)} (h : ∃ C, PySem.W.nsIn K mainGlobals x = some (some (.ref C)) ∧ PySem.W.kitOne K (.ref C) cv = some b ∧ XcK K C) (r : XI K cv xt) : XI K cv ((x, b) :: xt) := fun c d e => by
  rw [List.lookup_cons] at e
  split at e
  · rename_i q
    have q : c = x := by simpa using q
    subst q
    cases e
    exact h
  · exact r c d e
def onXc (d : Dv) (Q : Str → Option Int → Prop) : Prop := match d with | .exc c f => Q c f | _ => False
theorem onXc_ex {d : Dv} {Q : Str → Option Int → Prop} (h : onXc d Q) : ∃ c f, d = .exc c f ∧ Q c f := by
  cases d <;> first | exact h.elim | exact ⟨_, _, rfl, h⟩
theorem sqx_inst {K : PySem.W.Frag} {P : Program} {w : World} {H : Hp} {h : Heap} {a : Addr} {c : Str} {f : Option Int} (q : SqX K H a c f) (hok : HOk P w H h) : ∃ C oe od, PySem.W.nsIn K mainGlobals c = some (some (.ref C)) ∧ PySem.W.InstAt h a oe C od := by
  obtain ⟨C, oe, u, hn, e, hc, ⟨vs, hv⟩, hf⟩ := q
  obtain ⟨ha, _⟩ := hok a _ e
  have nc : PySem.W.notCls oe := by unfold PySem.W.notCls; rw [hv] <;> rfl
  cases f with
  | none => exact ⟨C, oe, none, hn, ha, hc, nc, by rw [show oe.dict = none from hf]; trivial⟩
  | some r =>
    obtain ⟨dx, od, e1, e2⟩ := hf
    obtain ⟨hd, _⟩ := hok dx _ e2
    exact ⟨C, oe, some od, hn, ha, hc, nc, by rw [e1]; exact hd⟩
def rIsX (K : PySem.W.Frag) : List V → Hp → VK → Prop := fun xs H Q => ∃ (a : Addr) (cc : V) (cv : Value) (c : Str) (f : Option Int) (C : Addr) (b : Bool), xs = [.ref a, cc] ∧ ClsV cc cv ∧ SqX K H a c f ∧ PySem.W.nsIn K mainGlobals c = some (some (.ref C)) ∧ PySem.W.kitOne K (.ref C) cv = some b ∧ XcK K C ∧ Q (.bl b) H
theorem call_isX {X : Cx} : CallR X (.builtin "isinstance") (rIsX X.K) := by
  intro pins s σ H xs us Q I r h
  obtain ⟨a, cc, cv, c, f, C, b, rfl, k, sq, hn, e, T, q⟩ := h
  obtain ⟨u1, u2, rfl, r1, r2⟩ := vals2 r
  have e2 := k.eq r2
  subst e2
  cases (show u1 = Value.ref a from r1)
  obtain ⟨C', oe, od, hn', J⟩ := sqx_inst sq I.hok
  rw [hn] at hn'
  cases hn'
  exact PySem.W.kia_one (PySem.W.kitx_exc T.cl T.ga T.gg T.sb T.kl T.sp T.tk T.mr) I.kIn J e (fun z => nomatch z) fun tk => ⟨.bl b, H, I.tok tk, rfl, q⟩
section
variable {X : Cx} {e : Expr} {te : RE} {y : Str} {p q pos : Pos} {xt : List (Str × Bool)} {v : V} {cv : Value}
def XF (K : PySem.W.Frag) (xs : List Str) : Prop := ∀ c, c ∈ xs → ∃ C, PySem.W.nsIn K mainGlobals c = some (some (.ref C)) ∧ XfC K C ∧ PySem.W.findIn K (.ref C) "row" = some none
def aRow (te : RE) (xs : List Str) : RE := fun ρ M Q => te ρ M fun d M1 => onXc d fun c f => c ∈ xs ∧ onS f fun r => Q (.int r) M1
theorem ae_row {xs : List Str} (xf : XF X.K xs) (he : AE X e te) (hb : attributeBase e "row" X.env (eval e X.env) = eval e X.env := by rfl) : AE X (.Attribute e "row" pos) (aRow te xs) := by
  refine ⟨fun pins s σ H Q' I ⟨ρ, M, Q, hr, hv, h, k⟩ => ?_⟩
  refine attr_of hb (thn (he.run pins s σ H _ I (seqE (Q' := fun u H1 => ∃ a r od0, u = .ref a ∧ (∃ c, c ∈ xs ∧ SqX X.K H1 a c (some r)) ∧ od0 = () ∧ Q' (V.int r) H1) hr hv h fun u H1 d M1 t1 r1 v1 q1 => ?_)) fun u s1 hh => ?_)
  · obtain ⟨c, f, rfl, hm, q1⟩ := onXc_ex q1
    obtain ⟨r, rfl, q1⟩ := onS_ex q1
    obtain ⟨a, rfl, sq⟩ := rep_exc_inv r1
    exact ⟨a, r, (), rfl, ⟨c, hm, sq⟩, rfl, k _ _ _ _ t1 rep_int v1 q1⟩
  · obtain ⟨x, H1, I1, rx, a, r, _, rfl, ⟨c, hm, sq⟩, _, q⟩ := hh
    obtain rfl : u = Value.ref a := rx
    obtain ⟨C, hn, T, hno⟩ := xf c hm
    obtain ⟨C', oe, uu, hn', ea, hc, ⟨vs, hvs⟩, dx, od, ed, edx⟩ := sq
    rw [hn] at hn'
    cases hn'
    obtain ⟨ha, _⟩ := I1.hok a _ ea
    obtain ⟨hod, hxd⟩ := I1.hok dx _ edx
    have hx : ObjOk X.prog X.w H1 s1.heap dx (.xd [(("row" : Str), .int r)]) := hxd
    obtain ⟨mA, hns, hrr⟩ := hx
    obtain ⟨od', ho, hl⟩ := lookIn_ns hns
    have er := hrr ("row" : Str)
    have el : ([(("row" : Str), V.int r)] : List (Str × V)).lookup ("row" : Str) = some (V.int r) := by rw [List.lookup_cons, BEq.rfl]
    rw [el] at er
    obtain ⟨uv, hu, ru⟩ := RelO.some_of (v := V.int r) (o := mA ("row" : Str)) er
    have J : PySem.W.InstAt s1.heap a oe C (some od') := ⟨ha, hc, by unfold PySem.W.notCls; rw [hvs] <;> rfl, by rw [ed]; exact ho⟩
    exact HandSPX.exc_get I1.kIn J T.ga T.gg T.exC (PySem.W.findObj_own T.hdC hno rfl (by rw [hl, hu])) (handed_of ru) ⟨V.int r, H1, I1.tok _, ru, q⟩
end
end HC
set_option maxHeartbeats 2000000
namespace HC
open PySem PySem.Spec L2 L2H PyProof.Rows
structure FnT (P : Program) (w : World) (K : PySem.W.Frag) (mg : Str → Option Value) (base : Heap) (k : Nat) (f : Addr) (fd : FuncData) (ps : List Str) (sp : Sp) : Prop where
  len : ∀ vs H Q E, sp vs H Q E → vs.length = ps.length
  run : ∀ (A : Around) (outer : List Env) (s : Shared) (H : Hp) (args : Args) (us : List Value) (vs : List V) (Q : VK) (E : XK), RoomH k A → Env0 P w K mg base A outer s H → BindsTo s fd args (ps.zip us) → Vals vs us → sp vs H Q E →
    codeAny (model P w) A (.call (.ref f) args) (CR CX0 outer P w H s Q E) s
theorem FnT.mono {P : Program} {w : World} {K : PySem.W.Frag} {mg : Str → Option Value} {base : Heap} {j k : Nat} {f : Addr} {fd : FuncData} {ps : List Str} {sp : Sp} (F : FnT P w K mg base j f fd ps sp) (h : j ≤ k) : FnT P w K mg base k f fd ps sp :=
  ⟨F.len, fun A outer s H args us vs Q E hr => F.run A outer s H args us vs Q E (hr.mono h)⟩
section
variable {X : Cx} {k : Nat} {f : Addr} {fd : FuncData} {ps : List Str} {sp : Sp} {x : Str} {p pos : Pos} {e : Expr} {es : List Expr} {t : TA}
end
section
variable {X : Cx} {k : Nat} {f : Addr} {fd : FuncData} {ps : List Str} {asp : ASp} {x : Str} {p pos : Pos} {e : Expr} {es : List Expr} {t : RA}
end
end HC
namespace HC
open PySem L2 PyProof.Rows
theorem xf_nil {K : PySem.W.Frag} : XF K [] := fun c h => by cases h
theorem xf_cons {K : PySem.W.Frag} {x : Str} {xs : List Str} (h : ∃ C, PySem.W.nsIn K mainGlobals x = some (some (.ref C)) ∧ XfC K C ∧ PySem.W.findIn K (.ref C) "row" = some none) (r : XF K xs) : XF K (x :: xs) := fun c e => by
  rcases List.mem_cons.mp e with q | q
  · rw [q]; exact h
  · exact r c q
theorem FnX.norm {P : Program} {w : World} {K : PySem.W.Frag} {mg : Str → Option Value} {base : Heap} {k : Nat} {f : Addr} {fd : FuncData} {ps : List Str} {asp : XSp} {sp : ASp} (F : FnX P w K mg base k f fd ps asp) (h : ∀ ds M Q, sp ds M Q → asp ds M Q fun _ _ _ => False) : FnA P w K mg base k f fd ps sp := by
  have G := F.nox
  exact ⟨fun vs H Q E ⟨ds, M, Q1, r, v, q, kk⟩ => G.len vs H Q E ⟨ds, M, Q1, r, v, h _ _ _ q, kk⟩, fun A outer s H args us vs Q E hr e0 hb r ⟨ds, M, Q1, r1, v, q, kk⟩ => G.run A outer s H args us vs Q E hr e0 hb r ⟨ds, M, Q1, r1, v, h _ _ _ q, kk⟩⟩
theorem boot_ValueError : bootBuiltins ("ValueError" : Str) = some (.type "ValueError") := PyProof.Rows.Boot.«ValueError»
theorem xr_mk {P : Program} {w : World} {K : PySem.W.Frag} {mg : Str → Option Value} {base : Heap} {x qual : Str} {st : Stmt} {C fI : Addr} {fd : FuncData} (hn : PySem.W.nsIn K mainGlobals x = some (some (.ref C))) (gC : mg x = some (.ref C)) (o : OexC K C) (hno : PySem.W.findIn K (.ref C) "row" = some none)
    (iC : PySem.W.findIn K (.ref C) "__init__" = some (some (.ref fI))) (tI : PySem.W.typeIn K (.ref fI) = some (.type "function")) (F : Fun K "__init__" qual st fI fd) (S : FnScope ["self", "row"] ["self", "row"] (defScope st)) (hb : Binds K fd ["self", "row"] [])
    {p1 p2 p3 p4 : Pos} (hv0 : Vis (defScope st) "self") (hv1 : Vis (defScope st) "row") (hbody : defBody st = [.Assign [.Attribute (.Name "self" p1) "row" p2] (.Name "row" p3) p4]) : XrT P w K mg base x := by
  refine ⟨C, fI, fd, hn, gC, o, iC, tI, F.ok S (fun vs H Q E ⟨a, v, e, _⟩ => by rw [e]; rfl) (fun cdv A outer s H vs Q E hr ⟨a, v, e, h1, h2⟩ => ?_), hb⟩
  refine ⟨tOst K "row" (tVar 0) (tVar 1), ?_, ?_⟩
  · rw [hbody]
    exact pss_one (ps_ost (pv 0 (hv := hv0)) (pv 1 (hv := hv1)))
  · subst e
    refine ⟨_, rfl, _, rfl, a, C, rfl, o, hno, .inl ⟨h1, fun dx n ne => h2 dx n ne⟩⟩
end HC
set_option maxHeartbeats 1000000
namespace HC
open PySem PySem.Spec L2 PyProof.Rows
theorem oexB_ok {K : PySem.W.Frag} {x : Str} (h : oexB x K = true) : OexC K (He.ga K x) := by
  unfold oexB at h
  obtain ⟨h0, h1⟩ := He.ba h
  obtain ⟨h2, h3⟩ := He.ba h1
  obtain ⟨h4, h5⟩ := He.ba h3
  obtain ⟨h6, h7⟩ := He.ba h5
  refine ⟨?_, He.eqO_ok h2, of_decide_eq_true h4, of_decide_eq_true h6, h7⟩
  generalize He.ga K x = C at h0 ⊢
  cases q : K.lookup C with
  | none => rw [q] at h0; cases h0
  | some o =>
    obtain ⟨oc, od, dt, osl⟩ := o
    rw [q] at h0
    cases oc with
    | type c =>
      cases dt with
      | cls cd =>
        obtain ⟨k1, k2⟩ := He.ba h0
        obtain rfl : c = "type" := of_decide_eq_true k1
        obtain ⟨nm, bs, mro, ns, qn, hdct, sn, sub, ab, col, hdel⟩ := cd
        obtain ⟨l⟩ := osl
        match mro, l, k2 with
        | .ref C' :: bm, [k0, k1, k2', k3, some (.builtin n), k5], k2 =>
          obtain ⟨e1, k2⟩ := He.ba k2
          obtain ⟨e2, k2⟩ := He.ba k2
          obtain ⟨e3, k2⟩ := He.ba k2
          obtain ⟨e4, e5⟩ := He.ba k2
          have f1 := of_decide_eq_true e1
          have f2 := of_decide_eq_true e2
          have f3 : hdct = true := e3
          have f4 : hdel = false := by
            cases hdel with
            | false => rfl
            | true => cases e4
          subst f1 f2 f3 f4
          exact ⟨nm, qn, ns, bs, bm, sn, sub, ab, col, od, k0, k1, k2', k3, k5, rfl, e5⟩
      | _ => cases h0
    | _ => cases dt <;> cases h0
theorem initB_ok {K : PySem.W.Frag} {x : Str} (h : initB x K = true) : PySem.W.findIn K (.ref (He.ga K x)) "__init__" = some (some (.ref (He.ma K (He.ga K x) "__init__"))) ∧ PySem.W.typeIn K (.ref (He.ma K (He.ga K x) "__init__")) = some (.type "function") := by
  obtain ⟨h1, h2⟩ := He.ba h
  exact ⟨He.eqO_ok h1, of_decide_eq_true h2⟩
theorem xckB_ok {K : PySem.W.Frag} {x : Str} (h : xckB x K = true) : XcK K (He.ga K x) := by
  obtain ⟨h1, h⟩ := He.ba h
  obtain ⟨h2, h⟩ := He.ba h
  obtain ⟨h3, h⟩ := He.ba h
  obtain ⟨h4, h⟩ := He.ba h
  obtain ⟨h5, h⟩ := He.ba h
  obtain ⟨h6, h⟩ := He.ba h
  obtain ⟨h7, h8⟩ := He.ba h
  exact ⟨h1, He.eqO_ok h2, He.eqO_ok h3, of_decide_eq_true h4, He.eqO_ok h5, He.eqO_ok h6, of_decide_eq_true h7, of_decide_eq_true h8⟩
theorem xfcB_ok {K : PySem.W.Frag} {x : Str} (h : xfcB x K = true) : XfC K (He.ga K x) := xfB_ok h
theorem kitQB_ok {K : PySem.W.Frag} {x : Str} {y : Option Str} {b : Bool} (h : kitQB x y b K = true) : PySem.W.kitOne K (.ref (He.ga K x)) (kitQV K y) = some b := of_decide_eq_true h
theorem knB_ok {K : PySem.W.Frag} {y : Option Str} (h : knB y K = true) : PySem.W.kitOne K (.type "NoneType") (kitQV K y) = some false := of_decide_eq_true h
end HC
set_option maxHeartbeats 1000000
namespace HC
open PySem PySem.Spec L2 HT PyProof.Rows
def idx2 (lo n : Nat) : List Nat := (List.range ((n + 1 - lo) / 2)).map fun k => lo + 2 * k
def nth2 {α : Type} (lo : Nat) (xs : List α) : List α := (idx2 lo xs.length).filterMap fun i => xs[i]?
def loO : Nat → Option Int
  | 0 => none
  | n + 1 => some ((n + 1 : Nat) : Int)
theorem range2 {lo n : Nat} (h : lo ≤ 1) : sliceRange (sliceBounds (loO lo) none (some 2) n).1 (sliceBounds (loO lo) none (some 2) n).2.1 (sliceBounds (loO lo) none (some 2) n).2.2 = idx2 lo n := by
  have e : sliceBounds (loO lo) none (some 2) n = (((min lo n : Nat) : Int), (n : Int), 2) := by
    rcases (show lo = 0 ∨ lo = 1 by omega) with rfl | rfl
    · rw [Nat.zero_min]
      rfl
    · show ((max 0 (min (if ((1 : Nat) : Int) < 0 then ((1 : Nat) : Int) + (n : Int) else ((1 : Nat) : Int)) (n : Int)), (n : Int), 2) : Int × Int × Int) = _
      rw [if_neg (by omega)]
      congr 1
      omega
  rw [e]
  unfold sliceRange idx2
  show List.map (fun (k : Nat) => (((min lo n : Nat) : Int) + 2 * (k : Int)).toNat) (List.range (if (2 : Int) > 0 then if ((min lo n : Nat) : Int) < (n : Int) then ((n : Int) - ((min lo n : Nat) : Int) + 2 - 1) / 2 else 0 else _).toNat) = _
  rw [if_pos (by decide)]
  by_cases q : lo < n
  · rw [show min lo n = lo by omega, if_pos (by omega)]
    have ec : (((n : Int) - (lo : Int) + 2 - 1) / 2).toNat = (n + 1 - lo) / 2 := by omega
    rw [ec]
    exact List.map_congr_left fun k _ => by omega
  · rw [if_neg (by omega), show (n + 1 - lo) / 2 = 0 by omega]
    rfl
theorem vals_pick : ∀ {L : List Nat} {xs : List V} {its : List Value}, Vals xs its → Vals (L.filterMap fun i => xs[i]?) (L.filterMap fun i => its[i]?)
  | [], _, _, _ => .nil
  | i :: L, xs, its, r => by
    rw [List.filterMap_cons, List.filterMap_cons]
    have hl := r.length
    by_cases h : i < xs.length
    · obtain ⟨u, hu, rv⟩ := r.get (List.getElem?_eq_getElem h)
      rw [List.getElem?_eq_getElem h, hu]
      exact .cons rv (vals_pick r)
    · rw [List.getElem?_eq_none (by omega), List.getElem?_eq_none (by omega)]
      exact vals_pick r
theorem reps_pick {K : PySem.W.Frag} {H : Hp} : ∀ {L : List Nat} {ds : List Dv} {vs : List V}, Reps K H ds vs → Reps K H (L.filterMap fun i => ds[i]?) (L.filterMap fun i => vs[i]?)
  | [], _, _, _ => Reps.nil
  | i :: L, ds, vs, r => by
    rw [List.filterMap_cons, List.filterMap_cons]
    have hl := r.length
    by_cases h : i < ds.length
    · obtain ⟨u, hu, rv⟩ := r.get (List.getElem?_eq_getElem h)
      rw [List.getElem?_eq_getElem h, hu]
      exact Reps.cons rv (reps_pick r)
    · rw [List.getElem?_eq_none (by omega), List.getElem?_eq_none (by omega)]
      exact reps_pick r
theorem nth2_len {α : Type} (lo : Nat) (xs : List α) : (nth2 lo xs).length ≤ xs.length + 1 := by
  refine Nat.le_trans (List.length_filterMap_le _ _) ?_
  unfold idx2
  rw [List.length_map, List.length_range]
  omega
section
variable {X : Cx} {e : Expr} {te : RE}
def tSt2 (K : PySem.W.Frag) (lo : Nat) (t : TE) : TE := fun σ H Q => t σ H fun x H1 => ∃ a xs, x = .ref a ∧ SqL K H1 a xs ∧ xs.length < sizeLine ∧ ∀ p, H1 p = none → Q (.ref p) (upd H1 p (.lst (nth2 lo xs)))
theorem pe_st2 {te : TE} {tl : TO} {lo : Option Expr} {n k : Nat} {p1 p3 pos : Pos} (hn : n ≤ 1) (hlo : PO X lo tl) (hk : ∀ σ H Q, Q (loO n) H → tl σ H Q) (he : PE X e te) : PE X (.Subscript e (.Slice lo none (some (.Constant (.int 2) k p1)) p3) pos) (tSt2 X.K n te) := by
  refine ⟨fun pins s σ H Q I h => ?_⟩
  refine Subscript_ (thn (he.run pins s σ H _ I h) fun v s1 ⟨x, H1, I1, r1, q1⟩ => ?_)
  obtain ⟨a, xs, ex, hx, hz0, q⟩ := q1
  subst ex
  cases r1
  have hst : PO X (some (.Constant (.int 2) k p1)) (tPart (tC (.int 2))) := po_some pe_int
  refine wpAny_Slice (thn (hlo.run pins s1 σ H1 (fun o H2 => o = loO n ∧ H2 = H1) I1 (hk _ _ _ ⟨rfl, rfl⟩)) fun vl s2 ⟨l, H2, I2, pl, el, e2⟩ => ?_)
  subst el e2
  refine thn (po_none.run pins s2 σ H2 (fun o H3 => o = none ∧ H3 = H2) I2 ⟨rfl, rfl⟩) fun vu s3 ⟨u, H3, I3, pu, eu, e3⟩ => ?_
  subst eu e3
  refine thn (hst.run pins s3 σ H3 (fun o H4 => o = some 2 ∧ H4 = H3) I3 ⟨2, rfl, rfl, rfl⟩) fun vs s4 ⟨o, H4, I4, ps, eo, e4⟩ => ?_
  subst eo e4
  have I5 : Inv X pins σ H4 { s4 with heap := s4.heap.push { cls := .type "slice", data := .fields #[vl, vu, vs] } } := I4.kept (t' := s4.toks) fun b ob z => Heap.get?_push_of_some _ z
  obtain ⟨its, r, ht, hz⟩ := I5.list hx
  have hlen := r.length
  show wpAny (model X.prog X.w) X.A (subscriptTail e (.Slice lo none (some (.Constant (.int 2) k p1)) p3) (.ref a) (.ref s4.heap.objs.size)) (EP X pins σ Q) X.xe { s4 with heap := s4.heap.push { cls := .type "slice", data := .fields #[vl, vu, vs] } }
  refine tail_any (ops := [.ref a, .ref s4.heap.objs.size]) ht.isList.typeIs (PySem.slot_list_getitem.lookup) ?_ (by with_unfolding_all rfl)
  refine wpAny_getItem_list_slice ht.isList (Heap.IsSliceOf.new _ vl vu vs) pl pu ps (by decide) ?_ (by rw [List.size_toArray]; omega)
  have eP : slicePick its.toArray (loO n) none (some 2) = (nth2 n its).toArray := by
    unfold slicePick nth2
    rw [range2 hn, List.size_toArray]
    simp only [List.getElem?_toArray]
  rw [eP]
  refine ⟨.ref _, _, I5.laid (t' := s4.toks) (o := .lst (nth2 n xs)) (fun b ob z => Heap.get?_push_of_some _ z) (Nat.le_refl _) ?_, rfl, q _ (I5.hok.fresh (Nat.le_refl _))⟩
  have hp := nth2_len n xs
  refine ⟨by omega, _, 0, ?_, Heap.get?_push_size _ rfl⟩
  unfold nth2
  rw [hlen]
  exact vals_pick r
def aSt2 (lo : Nat) (te : RE) : RE := fun ρ M Q => te ρ M fun d M1 => match d with
  | .rol xs => xs.length < sizeLine ∧ ∀ p, M1 p = none → Q (.ref p) (mup M1 p (.lst (nth2 lo xs)))
  | _ => False
theorem st2_imp {K : PySem.W.Frag} {n : Nat} : ∀ σ H Q, cE K (aSt2 n te) σ H Q → tSt2 K n (cE K te) σ H Q := fun σ H Q' ⟨ρ, M, Q, hr, hv, q, k⟩ => seqE hr hv q fun v H1 d M1 t1 r1 v1 q1 => by
  cases d <;> first | exact q1.elim | skip
  case rol xs =>
    obtain ⟨a, vs, e1, s, z⟩ := rep_rol_inv r1
    refine ⟨a, vs, e1, s.l, by rw [← z.length]; exact q1.1, ?_⟩
    have zz : Reps K H1 (nth2 n xs) (nth2 n vs) := by
      unfold nth2
      rw [z.length]
      exact reps_pick z
    exact end_lst zz v1 q1.2 (k.up t1)
theorem ae_st2a {k : Nat} {p1 p3 pos : Pos} (he : AE X e te) : AE X (.Subscript e (.Slice none none (some (.Constant (.int 2) k p1)) p3) pos) (aSt2 0 te) :=
  pe_imp (pe_st2 (n := 0) (by decide) po_none (fun _ _ _ q => q) he) st2_imp
theorem ae_st2b {j k : Nat} {p0 p1 p3 pos : Pos} (he : AE X e te) : AE X (.Subscript e (.Slice (some (.Constant (.int 1) j p0)) none (some (.Constant (.int 2) k p1)) p3) pos) (aSt2 1 te) :=
  pe_imp (pe_st2 (n := 1) (by decide) (po_some pe_int) (fun _ _ _ q => ⟨1, rfl, q⟩) he) st2_imp
end
end HC
set_option maxHeartbeats 1000000
namespace HC
open PySem PySem.Spec L2 PyProof.Rows
section
variable {X : Cx} {K : PySem.W.Frag} {o : Expr} {to : RE} {apos cpos : Pos}
def aUpp (to : RE) : RE := fun ρ M Q => to ρ M fun x M1 => match x with
  | .str z => z.length ≤ 5592405 ∧ Q (.str (Txt.upper z)) M1
  | _ => False
theorem ae_upp (ho : AE X o to) (hbase : attributeBase o "upper" X.env (eval o X.env) = eval o X.env := by rfl) (hline : (apos.endLine == cpos.line) = true := by rfl) : AE X (.Call (.Attribute o "upper" apos) [] [] cpos) (aUpp to) :=
  pe_imp (pe_upper ho hbase hline) fun σ H Q' h => by
    obtain ⟨ρ, M, Q, hr, hv, q, k⟩ := h
    refine seqE hr hv q fun v H1 d M1 t1 r1 v1 q1 => ?_
    cases d <;> first | exact q1.elim | skip
    case str z => exact ⟨⟨z, rep_str_inv r1⟩, z, rep_str_inv r1, rfl, q1.1, k _ _ _ _ t1 rep_str v1 q1.2⟩
end
end HC
set_option maxHeartbeats 1000000
namespace HC
open PySem PySem.Spec L2 PyProof.Rows
def rIsXN (K : PySem.W.Frag) : List V → Hp → VK → Prop := fun xs H Q => rIsX K xs H Q ∨ rIsi K xs H Q
theorem call_isXN {X : Cx} : CallR X (.builtin "isinstance") (rIsXN X.K) := by
  intro pins s σ H xs us Q I r h
  rcases h with h | h
  · exact call_isX pins s σ H xs us Q I r h
  · exact call_isi pins s σ H xs us Q I r h
section
variable {X : Cx} {e : Expr} {te : RE} {y : Str} {p q pos : Pos} {xt : List (Str × Bool)} {v : V} {cv : Value}
def aIsXN (te : RE) (xt : List (Str × Bool)) : RE := fun ρ M Q => te ρ M fun d M1 => match d with
  | .exc c _ => onS (xt.lookup c) fun b => Q (.bl b) M1
  | .non => Q (.bl false) M1
  | _ => False
theorem ae_isXN (hm : X.mg "isinstance" = none) (he : AE X e te) (hy : PE X (.Name y q) (tC v)) (hcv : ClsV v cv) (xi : XI X.K cv xt) (hn : PySem.W.kitOne X.K (.type "NoneType") cv = some false) (hg : Gl X "isinstance" := by rfl)
    (hes : starEach [e, .Name y q] X.env = (false, eval e X.env) :: starEach [.Name y q] X.env := by rfl) (hes2 : starEach [.Name y q] X.env = (false, eval (.Name y q) X.env) :: starEach [] X.env := by rfl) (hpl : (backTo pos (starEach [.Name y q] X.env)).any (·.1) = false := by rfl) :
    AE X (.Call (.Name "isinstance" p) [e, .Name y q] [] pos) (aIsXN te xt) :=
  pe_imp (pe_callB call_isXN hg hm PyProof.Rows.Boot.«isinstance» (pa_cons he (pa_cons hy pa_nil (hs := hes2)) (hs := hes)) (by decide) (by decide) hes hpl) fun σ H Q' ⟨ρ, M, Q, hr, hv, h, k⟩ => by
    refine seqE hr hv h fun u H1 d M1 t1 r1 v1 q1 => ?_
    cases d <;> first | exact q1.elim | skip
    case exc c f =>
      obtain ⟨b, hb, q1⟩ := onS_ex q1
      obtain ⟨a, rfl, sq⟩ := rep_exc_inv r1
      obtain ⟨C, hn', hk, T⟩ := xi c b hb
      exact .inl ⟨a, v, cv, c, f, C, b, rfl, hcv, sq, hn', hk, T, k _ _ _ _ t1 rep_bl v1 q1⟩
    case non =>
      exact .inr ⟨.non, v, .type "NoneType", cv, false, by rw [rep_non_inv r1], hcv, .base .non, hn, k _ _ _ _ t1 rep_bl v1 q1⟩
end
def aInTB (neg : Bool) : AR2 := fun x y M Q => match x with
  | .bl true => onS (itemsA y M) fun ys => ∃ bs : List Bool, ys = bs.map Dv.bl ∧ Q (.bl (negB neg (bs.any id))) M
  | _ => False
theorem flat_bls (bs : List Bool) : (bs.map V.bl).all flatV = true := List.all_eq_true.mpr fun x hx => by
  obtain ⟨b, _, rfl⟩ := List.mem_map.mp hx
  rfl
theorem in_bls (bs : List Bool) : inV (.bl true) (bs.map V.bl) = bs.any id := by
  unfold inV
  rw [List.any_map]
  congr 1
  funext b
  cases b <;> rfl
theorem ab_inTB {K : PySem.W.Frag} {neg : Bool} : Ab2 K (rIn K neg) (aInTB neg) := by
  intro H M x y dx dy Q Q' rx ry hv q k
  match dx, q with
  | .bl true, q =>
    obtain ⟨ys, h1, bs, rfl, q⟩ := onS_ex q
    obtain ⟨a, ws, e1, s, z⟩ := itemsA_ok ry hv h1
    have e2 := Reps.bools z
    subst e2
    refine ⟨a, bs.map V.bl, e1, s.symm, by rw [rep_bl_inv rx]; rfl, flat_bls bs, ?_⟩
    rw [rep_bl_inv rx, in_bls]
    have := k (.bl (negB neg (bs.any id))) H (.bl (negB neg (bs.any id))) M (Tp.refl H) rep_bl hv q
    cases neg <;> exact this
section
variable {X : Cx} {a b : Expr} {ta tb : RE} {pos : Pos}
theorem at_notinTB (ha : AE X a ta) (hb : AE X b tb) (hm : behindInMarks .NotIn b = false := by with_unfolding_all rfl) : AT X (.Compare a [.NotIn] [b] pos) (aB (aOp (aInTB true) ta tb)) := at_cmp op_notIn_seq ab_inTB ha hb hm
end
end HC
set_option maxHeartbeats 1000000
namespace HC
open PySem PySem.Spec L2 PyProof.Rows
section
variable {X : Cx} {K : PySem.W.Frag}
theorem strs_are : ∀ {ys : List Str} {its : List Value}, Vals (ys.map V.str) its → StrsAre its ys
  | [], _, r => by cases r; exact .nil
  | y :: ys, _, r => by
    cases r with
    | cons h t =>
      obtain ⟨u, rfl⟩ := (show ∃ t, _ = Value.str y t from h)
      exact .cons y u (strs_are t)
def rJoinA (K : PySem.W.Frag) : V → List V → Hp → VK → Prop := fun x xs H Q => ∃ (sep : Str) (p : Addr) (ys : List Str), x = .str sep ∧ xs = [.ref p] ∧ (SqL K H p (ys.map V.str) ∨ SqT K H p (ys.map V.str)) ∧
  (ys.map (·.length)).sum + ys.length * sep.length ≤ 16777216 ∧ Q (.str (Txt.join sep ys)) H
theorem mt_joinA : MtR X "str.join" (rJoinA X.K) := fun pins s σ H x xs v us Q I rx rxs h => by
  obtain ⟨sep, p, ys, rfl, rfl, hs, h1, q⟩ := h
  obtain ⟨t, rfl⟩ := (show ∃ t, v = Value.str sep t from rx)
  obtain ⟨u, rfl, ru⟩ := vals1 rxs
  obtain rfl : u = Value.ref p := ru
  rcases hs with hs | hs
  · obtain ⟨its, rv, pl, hz⟩ := I.list hs
    exact join_list pl.isList (strs_are rv) h1 fun t' k => ⟨.str _, H, I.tok k, ⟨_, rfl⟩, q⟩
  · obtain ⟨its, rv, pl, hz⟩ := I.tuple hs
    exact join_tuple pl (strs_are rv) h1 fun t' k => ⟨.str _, H, I.tok k, ⟨_, rfl⟩, q⟩
def amJoin : ARM := fun x ds M Q => match x, ds with
  | .str sep, [d] => onS (itemsA d M) fun xs => ∃ ys : List Str, xs = ys.map Dv.str ∧ (ys.map (·.length)).sum + ys.length * sep.length ≤ 16777216 ∧ Q (.str (Txt.join sep ys)) M
  | _, _ => False
theorem reps_strs {H : Hp} : ∀ {ys : List Str} {ws : List V}, Reps K H (ys.map Dv.str) ws → ws = ys.map V.str
  | [], _, r => r
  | y :: ys, _, r => by
    obtain ⟨v, r', rfl, h, t⟩ := Reps.cons_inv (d := .str y) (ds := ys.map Dv.str) r
    rw [rep_str_inv h, reps_strs t]
    rfl
theorem abm_join : AbM K (rJoinA K) amJoin := by
  intro H M x dx vs ds Q Q' rx rd hv q k
  match dx, ds, q with
  | .str sep, [d], q =>
    obtain ⟨xs, h2, ys, rfl, hz, q⟩ := onS_ex q
    obtain ⟨v, e, r1⟩ := reps1 rd
    obtain ⟨b, us, e3, s3, z3⟩ := itemsA_ok r1 hv h2
    rw [reps_strs z3] at s3
    exact ⟨sep, b, ys, rep_str_inv rx, by rw [e, e3], s3.symm, hz, k _ _ _ _ (Tp.refl H) rep_str hv q⟩
variable {o e : Expr} {to : RE} {t : RA} {apos cpos : Pos}
theorem ae_join (ho : AE X o to) (ha : AA X [e] t) (hline : (apos.endLine == cpos.line) = true := by rfl) (hbase : attributeBase o "join" X.env (eval o X.env) = eval o X.env := by rfl)
    (hfew : ((backTo cpos (starEach [e] X.env)).all (fun x => !x.1) && (backToKw cpos (keywordEach [] X.env)).all (fun x => x.1.isSome)
      && decide (([e] : List Expr).length + ([] : List Keyword).length + (if ([] : List Keyword).isEmpty then 0 else 1) < 30)) = true := by rfl)
    (hs : starEach [e] X.env = (false, eval e X.env) :: starEach [] X.env := by rfl) (hplain : (backTo cpos (starEach [] X.env)).any (·.1) = false := by rfl) :
    AE X (.Call (.Attribute o "join" apos) [e] [] cpos) (aMth "str" amJoin to t) := ae_bm PySem.F.plainAttrs_str PySem.F.slot_str_join PySem.F.type_str_join mt_joinA abm_join ho ha hbase hfew hline hs hplain
theorem ae_gstr {x z : Str} {tk : Tok} {pos : Pos} (hg : Gl X x) (hm : X.mg x = some (.str z tk)) (hd : (x == ("__debug__" : Str)) = false := by decide) : AE X (.Name x pos) (aC (.str z)) :=
  ae_c (pe_glob hg hm (v := .str z) ⟨_, rfl⟩ hd) fun _ => by simp only [Rep]
end
end HC
set_option maxHeartbeats 1000000
namespace HC
open PySem PySem.Spec L2 PyProof.Rows
section
variable {X : Cx} {K : PySem.W.Frag} {o e a b c : Expr} {to te ta tb tc : RE} {t : RA} {apos cpos pos p : Pos} {tg : Expr}
def amSplit : ARM := fun x ds M Q => match x, ds with
  | .str z, [.str y] => (y.length == 0) = false ∧ z.length + 2 ≤ sizeLine ∧ ∀ p, M p = none → Q (.ref p) (mup M p (.lst ((Txt.split z y).map Dv.str)))
  | _, _ => False
theorem reps_of_strs {H : Hp} : ∀ ys : List Str, Reps K H (ys.map Dv.str) (ys.map V.str)
  | [] => Reps.nil
  | y :: ys => Reps.cons rep_str (reps_of_strs ys)
theorem abm_split : AbM K (fun x xs H Q => ∃ a b, x = V.str a ∧ xs = [V.str b] ∧ (b.length == 0) = false ∧ a.length + 2 ≤ sizeLine ∧ rNewStrs (Txt.split a b) H Q) amSplit := by
  intro H M x dx vs ds Q Q' rx rd hv q k
  match dx, ds, q with
  | .str z, [.str y], q =>
    obtain ⟨h1, h2, q⟩ := q
    obtain ⟨v, e, r1⟩ := reps1 rd
    refine ⟨z, y, rep_str_inv rx, by rw [e, rep_str_inv r1], h1, h2, fun q0 hq0 => ?_⟩
    exact k _ _ _ _ (Tp.new hq0) (by simp only [Rep]) (hv.put (c := .lst ((Txt.split z y).map Dv.str)) (by rw [hq0]; trivial) ⟨_, upd_same, reps_of_strs _⟩) (q q0 (hv.free hq0))
theorem ae_split (ho : AE X o to) (ha : AA X [e] t) (hline : (apos.endLine == cpos.line) = true := by rfl) (hbase : attributeBase o "split" X.env (eval o X.env) = eval o X.env := by rfl)
    (hfew : ((backTo cpos (starEach [e] X.env)).all (fun x => !x.1) && (backToKw cpos (keywordEach [] X.env)).all (fun x => x.1.isSome)
      && decide (([e] : List Expr).length + ([] : List Keyword).length + (if ([] : List Keyword).isEmpty then 0 else 1) < 30)) = true := by rfl)
    (hs : starEach [e] X.env = (false, eval e X.env) :: starEach [] X.env := by rfl) (hplain : (backTo cpos (starEach [] X.env)).any (·.1) = false := by rfl) :
    AE X (.Call (.Attribute o "split" apos) [e] [] cpos) (aMth "str" amSplit to t) := ae_bm PySem.F.plainAttrs_str PySem.F.slot_str_split PySem.F.type_str_split mt_split abm_split ho ha hbase hfew hline hs hplain
def amIdxS : ARM := fun x ds M Q => match x, ds with
  | .str z, [.str y] => ∃ i rest, Builtin.Str.occurrences z y 0 z.length 1 = i :: rest ∧ Q (.int (i : Nat)) M
  | _, _ => False
theorem abm_idxS : AbM K (fun x xs H Q => ∃ a b i rest, x = V.str a ∧ xs = [V.str b] ∧ Builtin.Str.occurrences a b 0 a.length 1 = i :: rest ∧ Q (V.int (i : Nat)) H) amIdxS := by
  intro H M x dx vs ds Q Q' rx rd hv q k
  match dx, ds, q with
  | .str z, [.str y], q =>
    obtain ⟨i, rest, h1, q⟩ := q
    obtain ⟨v, e, r1⟩ := reps1 rd
    exact ⟨z, y, i, rest, rep_str_inv rx, by rw [e, rep_str_inv r1], h1, k _ _ _ _ (Tp.refl H) rep_int hv q⟩
theorem ae_idxS (ho : AE X o to) (ha : AA X [e] t) (hline : (apos.endLine == cpos.line) = true := by rfl) (hbase : attributeBase o "index" X.env (eval o X.env) = eval o X.env := by rfl)
    (hfew : ((backTo cpos (starEach [e] X.env)).all (fun x => !x.1) && (backToKw cpos (keywordEach [] X.env)).all (fun x => x.1.isSome)
      && decide (([e] : List Expr).length + ([] : List Keyword).length + (if ([] : List Keyword).isEmpty then 0 else 1) < 30)) = true := by rfl)
    (hs : starEach [e] X.env = (false, eval e X.env) :: starEach [] X.env := by rfl) (hplain : (backTo cpos (starEach [] X.env)).any (·.1) = false := by rfl) :
    AE X (.Call (.Attribute o "index" apos) [e] [] cpos) (aMth "str" amIdxS to t) := ae_bm PySem.F.plainAttrs_str PySem.F.slot_str_index PySem.F.type_str_index mt_sindex abm_idxS ho ha hbase hfew hline hs hplain
def aLeS : AR2 := fun x y M Q => match x, y with
  | .str i, .str j => Q (.bl (!decide (j.cps.toList < i.cps.toList))) M
  | _, _ => False
theorem ab_leS : Ab2 K (fun x y H Q => ∃ i j, x = V.str i ∧ y = V.str j ∧ Q (V.bl !decide (j.cps.toList < i.cps.toList)) H) aLeS := by
  intro H M x y dx dy Q Q' rx ry hv q k
  match dx, dy, q with
  | .str i, .str j, q => exact ⟨i, j, rep_str_inv rx, rep_str_inv ry, k _ _ _ _ (Tp.refl H) rep_bl hv q⟩
theorem ae_leS2 (ha : AE X a ta) (hb : AE X b tb) (hc : AE X c tc) (hm : lastMarks [.LtE, .LtE] [b, c] = false := by rfl) : AE X (.Compare a [.LtE, .LtE] [b, c] pos) (aChain aLeS aLeS ta tb tc) := ae_chain2 op_le_str op_le_str ab_leS ab_leS ha hb hc hm
def aInS : AR2 := fun x y M Q => match x, y with
  | .str s, .str z => ∃ c, s = ⟨#[c]⟩ ∧ Q (.bl (decide (c ∈ z.cps.toList))) M
  | _, _ => False
theorem ab_inS : Ab2 K (fun x y H Q => ∃ (c : Nat) (z : Str), x = V.str { cps := #[c] } ∧ y = V.str z ∧ Q (V.bl (decide (c ∈ z.cps.toList))) H) aInS := by
  intro H M x y dx dy Q Q' rx ry hv q k
  match dx, dy, q with
  | .str s, .str z, ⟨c, hc, q⟩ => exact ⟨c, z, by rw [rep_str_inv rx, hc], rep_str_inv ry, k _ _ _ _ (Tp.refl H) rep_bl hv q⟩
theorem ae_inS (ha : AE X a ta) (hb : AE X b tb) (hm : behindInMarks .In b = false := by with_unfolding_all rfl) : AE X (.Compare a [.In] [b] pos) (aOp aInS ta tb) := ae_cmp op_in_sign ab_inS ha hb hm
def signs (z : Str) : List Dv := z.cps.toList.map fun c => .str ⟨#[c]⟩
def aiStr (te : RE) : RI := fun ρ M Q => te ρ M fun d M1 => match d with
  | .str z => Q (signs z) (fun _ => True) M1
  | _ => False
theorem iw_str {z : Str} {keep : Ms → Prop} {H1 : Hp} : IW K (Its z) (signs z) keep H1 where
  go := fun i H M hi t v k => by
    have h : i < z.cps.size := by simpa [signs] using hi
    exact h
  stop := fun H M t v k => by simp [signs, Its]
  yld := fun i H M x H' hi t v k y => by
    obtain ⟨e, c, hc, y2⟩ := y
    subst e y2
    refine ⟨.str ⟨#[c]⟩, ?_, Tp.refl _, rep_str, v, fun _ _ => rfl⟩
    unfold signs
    rw [List.getElem?_map, Array.getElem?_toList, hc]
    rfl
theorem ai_str (h : AE X e te) : AI X tg e (aiStr te) :=
  pi_imp (pi_str h) fun σ H R ⟨ρ, M, Q, hr, hv, q, k⟩ => seqE hr hv q fun v H1 d M1 t1 r1 v1 q1 => by
    cases d <;> first | exact q1.elim | skip
    case str z => exact ⟨z, rep_str_inv r1, k _ H1 _ _ M1 t1 v1 q1 iw_str⟩
def acIntS : ARC := fun ds M Q => match ds with | [.str z] => ∃ n, intText? z = some n ∧ z.length ≤ 640 ∧ Q (.int n) M | _ => False
theorem abc_intS : AbC K (fun xs H Q => ∃ a n, xs = [V.str a] ∧ intText? a = some n ∧ a.length ≤ 640 ∧ Q (V.int n) H) acIntS := by
  intro H M vs ds Q Q' r hv q k
  match ds, q with
  | [.str z], q =>
    obtain ⟨n, h1, h2, q⟩ := q
    obtain ⟨v, e, rd⟩ := reps1 r
    exact ⟨z, n, by rw [e, rep_str_inv rd], h1, h2, k _ _ _ _ (Tp.refl H) rep_int hv q⟩
end
end HC
set_option maxHeartbeats 1000000
namespace HC
open PySem PySem.Spec L2 PyProof.Rows
structure KlF (K : PySem.W.Frag) (c : Str) (C : Addr) : Prop where
  na : PySem.W.nsIn K mainGlobals c = some (some (.ref C))
  cl : Cls K C
def objC (c : Str) : Option Cell → Option (List (Str × Dv))
  | some (.obj c' fs) => if c' = c then some fs else none
  | _ => none
theorem objC_l {c : Str} {o : Option Cell} {fs : List (Str × Dv)} (h : o = some (.obj c fs)) : objC c o = some fs := by
  subst h
  exact if_pos rfl
theorem objC_eq {c : Str} {o : Option Cell} {fs : List (Str × Dv)} (h : objC c o = some fs) : o = some (.obj c fs) := by
  cases o with
  | none => cases h
  | some x =>
    cases x with
    | obj c' gs =>
      have h : (if c' = c then some gs else none) = some fs := h
      by_cases q : c' = c
      · rw [if_pos q] at h
        cases h
        rw [q]
      · rw [if_neg q] at h
        cases h
    | lst _ => cases h
    | dic _ => cases h
    | dit _ => cases h
    | fdc _ => cases h
    | tab _ => cases h
    | cod _ => cases h
abbrev FP (K : PySem.W.Frag) (H : Hp) : List (Str × Dv) → List (Str × V) → Prop := Paired (fun (p : Str × Dv) (q : Str × V) => p.1 = q.1 ∧ Rep K H p.2 q.2)
def putFd (f : Str) (d : Dv) : List (Str × Dv) → List (Str × Dv)
  | [] => [(f, d)]
  | (g, e) :: fs => if g = f then (g, d) :: fs else (g, e) :: putFd f d fs
theorem fp_put {K : PySem.W.Frag} {H : Hp} {f : Str} {d : Dv} {v : V} (r : Rep K H d v) : ∀ {fs : List (Str × Dv)} {vs : List (Str × V)}, FP K H fs vs → FP K H (putFd f d fs) (putF f v vs)
  | _, _, .nil => .cons ⟨rfl, r⟩ .nil
  | (g, e) :: fs, (g2, u) :: vs, .cons ⟨e1, r1⟩ t => by
    have e1 : g = g2 := e1
    subst e1
    show FP K H (if g = f then (g, d) :: fs else (g, e) :: putFd f d fs) (if g = f then (g, v) :: vs else (g, u) :: putF f v vs)
    by_cases q : g = f
    · rw [if_pos q, if_pos q]
      exact .cons ⟨rfl, r⟩ t
    · rw [if_neg q, if_neg q]
      exact .cons ⟨rfl, r1⟩ (fp_put r t)
theorem fp_look {K : PySem.W.Frag} {H : Hp} {f : Str} {d : Dv} : ∀ {fs : List (Str × Dv)} {vs : List (Str × V)}, FP K H fs vs → fs.lookup f = some d → ∃ v, vs.lookup f = some v ∧ Rep K H d v
  | _, _, .nil, h => by cases h
  | (g, e) :: fs, (g2, u) :: vs, .cons ⟨e1, r1⟩ t, h => by
    have e1 : g = g2 := e1
    subst e1
    rw [List.lookup_cons] at h ⊢
    cases q : f == g with
    | true =>
      rw [q] at h
      cases h
      exact ⟨u, rfl, r1⟩
    | false =>
      rw [q] at h
      exact fp_look t h
theorem fp_none {K : PySem.W.Frag} {H : Hp} {f : Str} : ∀ {fs : List (Str × Dv)} {vs : List (Str × V)}, FP K H fs vs → fs.lookup f = none → vs.lookup f = none
  | _, _, .nil, _ => rfl
  | (g, e) :: fs, (g2, u) :: vs, .cons ⟨e1, r1⟩ t, h => by
    have e1 : g = g2 := e1
    subst e1
    rw [List.lookup_cons] at h ⊢
    cases q : f == g with
    | true => rw [q] at h; cases h
    | false =>
      rw [q] at h
      exact fp_none t h
theorem view_obj {K : PySem.W.Frag} {M : Ms} {H : Hp} {a C : Addr} {c : Str} {fs : List (Str × Dv)} (v : View K M H) (h : M a = some (.obj c fs)) (F : KlF K c C) : ∃ dx vs, H a = some (.ins C dx vs) ∧ FP K H fs vs := by
  obtain ⟨C', dx, vs, hn, e, z⟩ := v a _ h
  rw [F.na] at hn
  cases hn
  exact ⟨dx, vs, e, z⟩
def aFld (c f : Str) (te : RE) : RE := fun ρ M Q => te ρ M fun d M1 => match d with
  | .ref a => onS (objC c (M1 a)) fun fs => onS (fs.lookup f) fun v => Q v M1
  | _ => False
section
variable {X : Cx} {e o : Expr} {es : List Expr} {f c m : Str} {pos apos p : Pos} {te to : RE} {t : RA} {C : Addr}
theorem ae_fld (F : KlF X.K c C) (n : NoAttr X.K C f) (h : AE X e te) (hb : attributeBase e f X.env (eval e X.env) = eval e X.env := by rfl) : AE X (.Attribute e f pos) (aFld c f te) :=
  pe_imp (pe_fld h hb) fun σ H Q' ⟨ρ, M, Q, hr, hv, q, k⟩ => seqE hr hv q fun v H1 d M1 t1 r1 v1 q1 => by
    cases d <;> first | exact q1.elim | skip
    case ref a =>
      obtain ⟨fs, h1, q1⟩ := onS_ex q1
      obtain ⟨dv, h2, q1⟩ := onS_ex q1
      obtain ⟨dx, vs, e1, z⟩ := view_obj v1 (objC_eq h1) F
      obtain ⟨u, e2, ru⟩ := fp_look z h2
      exact ⟨a, C, dx, vs, u, rep_ref_inv r1, e1, F.cl, n, e2, k _ _ _ _ t1 ru v1 q1⟩
def asFld (c f : Str) (to tv : RE) : RS := fun D ρ M => tv ρ M fun v M1 => to ρ M1 fun d M2 => match d with
  | .ref a => onS (objC c (M2 a)) fun fs => fs.length < 1000 ∧ D.nx ρ (mup M2 a (.obj c (putFd f v fs)))
  | _ => False
theorem as_fld {value : Expr} {tv : RE} (F : KlF X.K c C) (n : NoAttr X.K C f) (h : AE X o to) (hv : AE X value tv) (hs : swapsWith value (some (.Attribute o f apos)) pos.line X.env = pure false := by rfl) : AS X (.Assign [.Attribute o f apos] value pos) (asFld c f to tv) :=
  ps_imp (ps_fld h hv hs) fun D' σ H ⟨ρ, M, D, hr, hv, q, k⟩ => seqE hr hv q fun y H1 dy M1 t1 r1 v1 q1 => seqE (hr.mono t1) v1 q1 fun x H2 dx2 M2 t2 r2 v2 q2 => by
    cases dx2 <;> first | exact q2.elim | skip
    case ref a =>
      obtain ⟨fs, h1, hz, q2⟩ := onS_ex q2
      have ho := objC_eq h1
      obtain ⟨dx, vs, e1, z⟩ := view_obj v2 ho F
      have sf := v2.soft ho
      have t3 : Tp X.K H2 (upd H2 a (.ins C dx (putF f y vs))) := Tp.put sf
      refine ⟨a, C, dx, vs, rep_ref_inv r2, e1, F.cl, n, by rw [← Paired.length z]; exact hz, ?_⟩
      exact k.nx _ _ _ _ ((t1.trans t2).trans t3) (hr.mono ((t1.trans t2).trans t3)) (v2.put (c := .obj c (putFd f dy fs)) sf ⟨C, dx, _, F.na, upd_same, Paired.mapP (fp_put (r1.mono t2) z) fun _ _ w => ⟨w.1, w.2.mono t3⟩⟩) q2
def aMeth (c m : Str) (asp : ASp) (to : RE) (t : RA) : RE := fun ρ M Q => to ρ M fun d M1 => match d with
  | .ref a => onS (objC c (M1 a)) fun fs => fs.lookup m = none ∧ t ρ M1 fun ds M2 => asp (.ref a :: ds) M2 Q
  | _ => False
variable {fa : Addr} {fd : FuncData} {ps : List Str} {asp : ASp} {k : Nat}
theorem meth_imp {K : PySem.W.Frag} (F : KlF K c C) : ∀ σ H Q, cE K (aMeth c m asp to t) σ H Q → tMeth C m (cSp K asp) [] E0 (cE K to) (cA K t) σ H Q := fun σ H Q' ⟨ρ, M, Q, hr, hv, q, k⟩ => seqE hr hv q fun x H1 d M1 t1 r1 v1 q1 => by
  cases d <;> first | exact q1.elim | skip
  case ref a =>
    obtain ⟨fs, h1, hn, q1⟩ := onS_ex q1
    obtain ⟨dx, vs, e1, z⟩ := view_obj v1 (objC_eq h1) F
    refine ⟨a, dx, vs, rep_ref_inv r1, e1, fp_none z hn, seqA (hr.mono t1) v1 q1 fun us H2 ds M2 t2 r2 v2 q2 => ?_⟩
    exact ⟨.ref a :: ds, M2, Q, by rw [List.append_nil]; exact Reps.cons (r1.mono t2) r2, v2, q2, (k.up t1).up t2⟩
theorem ae_meth (F : KlF X.K c C) (hm : Meth X.K C m fa) (G : FnA X.prog X.w X.K X.mg X.base k fa fd ps asp) (hr : Room k X.A) (hb : Binds X.K fd ps []) {pl : Sem Bool} (ho : AE X o to) (ha : AA X (e :: es) t)
    (he : starEach (e :: es) X.env = (false, eval e X.env) :: starEach es X.env := by rfl) (hpl : (backTo pos (starEach es X.env)).any (·.1) = false := by rfl)
    (hev : eval (.Call (.Attribute o m apos) (e :: es) [] pos) X.env = (do
      let ov ← eval o X.env
      standAt apos.atName
      let __x ← holding [ov] (getMethod ov m pl)
      match __x with
        | (f, first) => callWith pos f first (backTo pos (starEach (e :: es) X.env)) (backToKw pos (keywordEach [] X.env))) := by rfl) : AE X (.Call (.Attribute o m apos) (e :: es) [] pos) (aMeth c m asp to t) :=
  pe_imp (pe_meth ho F.cl hm G hr hb .nil pass0 ha he hpl hev) (meth_imp F)
theorem ae_meth0 (F : KlF X.K c C) (hm : Meth X.K C m fa) (G : FnA X.prog X.w X.K X.mg X.base k fa fd ps asp) (hr : Room k X.A) (hb : Binds X.K fd ps []) {pl : Sem Bool} (ho : AE X o to)
    (hev : eval (.Call (.Attribute o m apos) [] [] pos) X.env = (do
      let ov ← eval o X.env
      standAt apos.atName
      let __x ← holding [ov] (getMethod ov m pl)
      match __x with
        | (f, first) => callWith pos f first (backTo pos (starEach [] X.env)) (backToKw pos (keywordEach [] X.env))) := by rfl) : AE X (.Call (.Attribute o m apos) [] [] pos) (aMeth c m asp to aNil) :=
  pe_imp (pe_meth0 ho F.cl hm G hr hb .nil pass0 hev) fun σ H Q' ⟨ρ, M, Q, hr, hv, q, k⟩ => seqE hr hv q fun x H1 d M1 t1 r1 v1 q1 => by
    cases d <;> first | exact q1.elim | skip
    case ref a =>
      obtain ⟨fs, h1, hn, q1⟩ := onS_ex q1
      obtain ⟨dx, vs, e1, z⟩ := view_obj v1 (objC_eq h1) F
      exact ⟨a, dx, vs, rep_ref_inv r1, e1, fp_none z hn, [.ref a], M1, Q, Reps.cons r1 Reps.nil, v1, q1, k.up t1⟩
def aMk0 (c : Str) (asp : ASp) : RE := fun _ M Q => ∀ x, M x = none → asp [.ref x] (mup M x (.obj c [])) fun d M1 => d = .non ∧ Q (.ref x) M1
theorem ae_mk0 {x : Str} (F : KlF X.K c C) (hM : Mk X.K C fa) (G : FnA X.prog X.w X.K X.mg X.base k fa fd ps asp) (hr : Room (k + 1) X.A) (hm : X.mg x = some (.ref C)) (hb : Binds X.K fd ps []) (hg : Gl X x := by rfl)
    (hdb : (x == ("__debug__" : Str)) = false := by decide) : AE X (.Call (.Name x p) [] [] pos) (aMk0 c asp) :=
  pe_imp (pe_make0 hM G hr hg hm hb .nil pass0 hdb) fun σ H Q' ⟨ρ, M, Q, hr, hv, q, k⟩ => by
    intro x dx h1 h2 hne
    have n1 : upd H dx (.own x) x = none := (upd_ne hne.symm).trans h1
    have t1 : Tp X.K H (upd H dx (.own x)) := Tp.new h2
    have t2 : Tp X.K (upd H dx (.own x)) (upd (upd H dx (.own x)) x (.ins C dx [])) := Tp.new n1
    have v1 : View X.K M (upd H dx (.own x)) := hv.new h2
    refine ⟨[.ref x], mup M x (.obj c []), _, Reps.cons (by simp only [Rep]) Reps.nil, v1.put (c := .obj c []) (by rw [n1]; trivial) ⟨C, dx, [], F.na, upd_same, .nil⟩, q x (hv.free h1), ?_⟩
    intro v H' d M' t3 r3 v3 ⟨hd, q3⟩
    subst hd
    exact ⟨rep_non_inv r3, k _ _ _ _ ((t1.trans t2).trans t3) (by simp only [Rep]) v3 q3⟩
end
end HC
set_option maxHeartbeats 4000000
namespace HC
open PySem PySem.Spec L2 PyProof.Rows HT
section
variable {prog : Program} {w : World} {A : Around} {E : Value → Shared → Prop} {s : Shared}
end
section
variable {X : Cx} {e : Expr} {te : RE} {pos : Pos} {K : PySem.W.Frag}
end
end HC
set_option maxHeartbeats 4000000
namespace HC
open PySem PySem.Spec L2 PyProof.Rows HT
section
variable {X : Cx}
end
section
variable {X : Cx} {o e : Expr} {to : RE} {t : RA} {apos cpos : Pos}
end
end HC
namespace HC
open PySem PySem.Spec L2 PyProof.Rows
section
variable {X : Cx} {a b : Expr} {ta tb : RE} {rest : List Expr} {pos : Pos}
end
end HC
set_option maxHeartbeats 1000000
namespace HC
open PySem L2 PyProof.Rows
def strI (i : Int) : Str := toString i
def acStr : ARC := fun ds M Q => match ds with | [.int i] => i.natAbs.log2 < 1920 ∧ Q (.str (strI i)) M | _ => False
theorem abc_str {K : PySem.W.Frag} : AbC K (fun xs H Q => ∃ i, xs = [.int i] ∧ i.natAbs.log2 < 1920 ∧ Q (.str (toString i)) H) acStr := by
  intro H M vs ds Q Q' r hv q k
  match ds, q with
  | [.int i], q =>
    obtain ⟨v, e, rd⟩ := reps1 r
    exact ⟨i, by rw [e, rep_int_inv rd], q.1, k _ _ _ _ (Tp.refl H) rep_str hv q.2⟩
theorem lay_asc {x : Str} (h : PySem.W.KSb.Asc x) : PyData.canLay0 (.str x) = true := by
  show x.cps.all (· < 0x110000) = true
  rw [Array.all_eq_true]
  intro i hi
  have := h x.cps[i] (Array.mem_toList_iff.mpr (Array.getElem_mem hi))
  exact decide_eq_true (by omega)
end HC
namespace Law
open PySem L2 HC PyProof.Rows
abbrev kS (x : Str) : Key := .inr x
def potC (q : Addr) (l s m : Int) : Cell := .dic [(kS "own", .ref q), (kS "left", .int l), (kS "seed", .int s), (kS "many", .int m)]
structure DPot (p q : Addr) (M : Ms) : Prop where
  ne : p ≠ q
  d : ∃ l s m : Int, M p = some (potC q l s m) ∧ 0 ≤ l ∧ 0 ≤ s ∧ 0 ≤ m
  o : ∃ own : List Int, M q = some (.lst (own.map Dv.int)) ∧ (∀ x ∈ own, 0 ≤ x) ∧ own.length ≤ 63
def But (p q : Addr) (M M' : Ms) : Prop := ∀ a c, a ≠ p → a ≠ q → M a = some c → M' a = some c
theorem put_left (o : Dv) (l s c x : Dv) : putA [(kS (Str.ofString "own"), o), (kS (Str.ofString "left"), l), (kS (Str.ofString "seed"), s), (kS (Str.ofString "many"), c)] (.inr (Str.ofString "left")) x = [(kS (Str.ofString "own"), o), (kS (Str.ofString "left"), x), (kS (Str.ofString "seed"), s), (kS (Str.ofString "many"), c)] := rfl
theorem put_seed (o : Dv) (l s c x : Dv) : putA [(kS (Str.ofString "own"), o), (kS (Str.ofString "left"), l), (kS (Str.ofString "seed"), s), (kS (Str.ofString "many"), c)] (.inr (Str.ofString "seed")) x = [(kS (Str.ofString "own"), o), (kS (Str.ofString "left"), l), (kS (Str.ofString "seed"), x), (kS (Str.ofString "many"), c)] := rfl
theorem put_many (o : Dv) (l s c x : Dv) : putA [(kS (Str.ofString "own"), o), (kS (Str.ofString "left"), l), (kS (Str.ofString "seed"), s), (kS (Str.ofString "many"), c)] (.inr (Str.ofString "many")) x = [(kS (Str.ofString "own"), o), (kS (Str.ofString "left"), l), (kS (Str.ofString "seed"), s), (kS (Str.ofString "many"), x)] := rfl
theorem But.p {p q : Addr} {M M1 : Ms} {c : Cell} (h : But p q M M1) : But p q M (mup M1 p c) := fun a d h1 h2 e => by rw [mup_ne h1]; exact h a d h1 h2 e
theorem But.q {p q : Addr} {M M1 : Ms} {c : Cell} (h : But p q M M1) : But p q M (mup M1 q c) := fun a d h1 h2 e => by rw [mup_ne h2]; exact h a d h1 h2 e
theorem But.new {p q r : Addr} {M M1 : Ms} {c : Cell} (h : But p q M M1) (hr : M1 r = none) : But p q M (mup M1 r c) := fun a d h1 h2 e => Sub.new hr a d (h a d h1 h2 e)
theorem But.refl (p q : Addr) (M : Ms) : But p q M M := fun _ _ _ _ e => e
theorem But.trans {p q : Addr} {M M1 M2 : Ms} (h : But p q M M1) (k : But p q M1 M2) : But p q M M2 := fun a d h1 h2 e => k a d h1 h2 (h a d h1 h2 e)
theorem But.sub {p q : Addr} {M M1 M2 : Ms} (h : But p q M M1) (k : Sub M1 M2) : But p q M M2 := fun a d h1 h2 e => k a d (h a d h1 h2 e)
theorem DPot.sub {p q : Addr} {M M1 : Ms} (h : DPot p q M) (k : Sub M M1) : DPot p q M1 := by
  obtain ⟨hne, ⟨l, s, c, hp, b⟩, own, hq, ho⟩ := h
  exact ⟨hne, ⟨l, s, c, k _ _ hp, b⟩, own, k _ _ hq, ho⟩
theorem DPot.set {p q : Addr} {M : Ms} {l s c : Int} (h : DPot p q M) (l0 : 0 ≤ l) (s0 : 0 ≤ s) (c0 : 0 ≤ c) : DPot p q (mup M p (potC q l s c)) := by
  obtain ⟨hne, _, own, hq, ho⟩ := h
  exact ⟨hne, ⟨l, s, c, mup_same, l0, s0, c0⟩, own, by rw [mup_ne hne.symm]; exact hq, ho⟩
theorem DPot.keep {p q : Addr} {M M1 : Ms} (h : DPot p q M) (k : Sub M M1) : DPot p q M1 := h.sub k
theorem DPot.nep {p q r : Addr} {M : Ms} (h : DPot p q M) (hr : M r = none) : r ≠ p := by
  obtain ⟨_, ⟨l, s, c, hp, _⟩, _⟩ := h
  exact (ne_of_new hp hr).symm
theorem DPot.neq {p q r : Addr} {M : Ms} (h : DPot p q M) (hr : M r = none) : r ≠ q := by
  obtain ⟨_, _, own, hq, _⟩ := h
  exact (ne_of_new hq hr).symm
theorem DPot.del {p q r : Addr} {M : Ms} (h : DPot p q M) (h1 : r ≠ p) (h2 : r ≠ q) : DPot p q (mdel M r) := by
  obtain ⟨hne, ⟨l, s, c, hp, b⟩, own, hq, ho⟩ := h
  exact ⟨hne, ⟨l, s, c, by rw [mdel_ne h1.symm]; exact hp, b⟩, own, by rw [mdel_ne h2.symm]; exact hq, ho⟩
theorem But.del {p q r : Addr} {M M1 : Ms} (h : But p q M M1) (hr : M r = none) : But p q M (mdel M1 r) := fun a d h1 h2 e => by rw [mdel_ne (ne_of_new e hr)]; exact h a d h1 h2 e
theorem But.at {p q r : Addr} {M M1 : Ms} {c : Cell} (h : But p q M M1) (h1 : r ≠ p) (h2 : r ≠ q) (e : M r = some c) : M1 r = some c := h r c h1 h2 e
theorem DPot.put {p q r : Addr} {M : Ms} {c : Cell} (h : DPot p q M) (h1 : r ≠ p) (h2 : r ≠ q) : DPot p q (mup M r c) := by
  obtain ⟨hne, ⟨l, s, c', hp, b⟩, own, hq, ho⟩ := h
  exact ⟨hne, ⟨l, s, c', by rw [mup_ne h1.symm]; exact hp, b⟩, own, by rw [mup_ne h2.symm]; exact hq, ho⟩
theorem But.mdel2 {p q r : Addr} {M M1 : Ms} (h : But p q M M1) : But p q (mdel M r) (mdel M1 r) := fun a d h1 h2 e => by
  by_cases ha : a = r
  · subst ha; rw [mdel_same] at e; cases e
  · rw [mdel_ne ha] at e ⊢; exact h a d h1 h2 e
theorem But.put {p q r : Addr} {M M1 : Ms} {c : Cell} (h : But p q M M1) (hr : M r = none) : But p q M (mup M1 r c) := fun a d h1 h2 e => by rw [mup_ne (ne_of_new e hr)]; exact h a d h1 h2 e
end Law
namespace Law
open PySem L2 HC PyProof.Rows
def Pn : Nat → Dv → Prop
  | _, .non => True
  | _, .bl _ => True
  | _, .int _ => True
  | _, .str x => PyData.canLay0 (.str x) = true
  | n + 1, .tup xs => xs.length ≤ sizeLine ∧ ∀ d ∈ xs, Pn n d
  | n + 1, .rol xs => xs.length ≤ sizeLine ∧ ∀ d ∈ xs, Pn n d
  | _, _ => False
theorem Pn.up : ∀ {n : Nat} {d : Dv}, Pn n d → Pn (n + 1) d
  | 0, .non, _ => trivial
  | 0, .bl _, _ => trivial
  | 0, .int _, _ => trivial
  | 0, .str _, h => h
  | n + 1, .non, _ => trivial
  | n + 1, .bl _, _ => trivial
  | n + 1, .int _, _ => trivial
  | n + 1, .str _, h => h
  | n + 1, .tup xs, h => ⟨h.1, fun d hd => Pn.up (h.2 d hd)⟩
  | n + 1, .rol xs, h => ⟨h.1, fun d hd => Pn.up (h.2 d hd)⟩
def wholeB : Dv → Bool
  | .int _ => true
  | _ => false
def betwB (d : Dv) (lo hi : Int) : Bool := match d with
  | .int i => decide (lo ≤ i) && decide (i ≤ hi)
  | _ => false
def blockB (d : Dv) (size : Int) : Bool := match d with
  | .tup xs => decide ((xs.length : Int) = size) && xs.all fun x => betwB x 0 255
  | _ => false
def diskB (d : Dv) (size rows : Int) : Bool := match d with
  | .non => true
  | .tup xs => decide ((xs.length : Int) = rows) && xs.all fun x => isNon x || blockB x size
  | _ => false
def widthsB (w m : Dv) (par rows many : Int) : Bool := match w, m with
  | .int w, .int m => (decide (par + 1 ≤ w) && decide (w ≤ 10)) && (if many = w then decide (m = 0) else decide (many = w + 1) && (decide (many ≤ 10) && (decide (0 ≤ m) && decide (m < rows))))
  | _, _ => false
def natB (d : Dv) : Bool := match d with
  | .int i => decide (0 ≤ i)
  | _ => false
def headB (d : Dv) (many : Int) : Bool := match d with
  | .tup [a, b, c, w, m, f] => betwB a 1 2 && (betwB b 1 16 && (betwB c 1 24 && (natB f && (match a, c with
    | .int p, .int r => widthsB w m p r many
    | _, _ => false))))
  | _ => false
def noteB (d : Dv) (at' par size rows many : Int) : Bool := match d with
  | .tup [.str x, a, b, c] => if x = ("end" : Str) then (match a with | .int a => decide (a = at') | _ => false) && widthsB b c par rows many
      else if x = ("block" : Str) then betwB a 0 (many - 1) && (betwB b 0 (rows - 1) && blockB c size) else false
  | _ => false
def isBlk (d : Dv) : Bool := match d with
  | .tup (.str x :: _) => decide (x = ("block" : Str))
  | _ => false
def journalB (d : Dv) (par size rows many : Int) : Bool := match d with
  | .tup xs => ((List.range xs.length).all fun (i : Nat) => noteB (xs.getD i .non) i par size rows many) && (xs.take (xs.length - 1)).all isBlk
  | _ => false
def storeB (d : Dv) : Bool := match d with
  | .tup [h, .tup disks, j] => headB h disks.length && (match h with
    | .tup [.int p, .int s, .int r, _, _, _] => (disks.all fun x => diskB x s r) && journalB j p s r disks.length
    | _ => false)
  | _ => false
theorem betwB_int {d : Dv} {lo hi : Int} (h : betwB d lo hi = true) : ∃ i, d = .int i ∧ lo ≤ i ∧ i ≤ hi := by
  cases d <;> first | cases h | skip
  simp only [betwB, Bool.and_eq_true, decide_eq_true_eq] at h
  exact ⟨_, rfl, h⟩
theorem headB_shape {d : Dv} {many : Int} (h : headB d many = true) : ∃ p s r w m f, d = .tup [.int p, .int s, .int r, w, m, .int f] := by
  unfold headB at h
  split at h
  · next a b c w m f =>
    simp only [Bool.and_eq_true] at h
    obtain ⟨h1, h2, h3, h4, _⟩ := h
    obtain ⟨p, rfl, _⟩ := betwB_int h1
    obtain ⟨s, rfl, _⟩ := betwB_int h2
    obtain ⟨r, rfl, _⟩ := betwB_int h3
    cases f <;> first | cases h4 | skip
    exact ⟨_, _, _, _, _, _, rfl⟩
  · cases h
theorem headB_len {xs : List Dv} {many : Int} (h : ¬ xs.length = 6) : headB (.tup xs) many = false := by
  unfold headB
  split
  · next e => cases e; exact absurd rfl h
  · rfl
theorem noteB_len {xs : List Dv} {a p s r m : Int} (h : ¬ xs.length = 4) : noteB (.tup xs) a p s r m = false := by
  unfold noteB
  split
  · next e => cases e; exact absurd rfl h
  · rfl
theorem noteB_str {d a b c : Dv} {a' p s r m : Int} (h : ∀ x, d ≠ .str x) : noteB (.tup [d, a, b, c]) a' p s r m = false := by
  cases d <;> first | rfl | exact absurd rfl (h _)
theorem noteB_shape {d : Dv} {a' p s r m : Int} (h : noteB d a' p s r m = true) : ∃ x a b c, d = .tup [.str x, a, b, c] := by
  unfold noteB at h
  split at h
  · exact ⟨_, _, _, _, rfl⟩
  · cases h
theorem storeB_len {xs : List Dv} (h : ¬ xs.length = 3) : storeB (.tup xs) = false := by
  unfold storeB
  split
  · next e => cases e; exact absurd rfl h
  · rfl
theorem storeB_mid {a b c : Dv} (h : ∀ xs, b ≠ .tup xs) : storeB (.tup [a, b, c]) = false := by
  cases b <;> first | rfl | exact absurd rfl (h _)
theorem cut_last (xs : List Dv) : cutA xs none (some (-1)) = xs.take (xs.length - 1) := by
  have e : HT.sIx xs.length xs.length (some (-1)) = xs.length - 1 := by
    show (if (-1 : Int) < 0 then ((-1 : Int) + (xs.length : Int)).toNat else min (-1 : Int).toNat xs.length) = _
    rw [if_pos (by decide)]
    omega
  unfold cutA
  rw [e]
  show (xs.drop 0).take (xs.length - 1 - 0) = _
  rfl
abbrev Blk := List Nat
structure Head where
  par : Nat
  size : Nat
  rows : Nat
  width : Nat
  moved : Nat
  spares : Nat
def Head.d (h : Head) : Dv := .tup [dn h.par, dn h.size, dn h.rows, dn h.width, dn h.moved, dn h.spares]
structure Head.Ok (h : Head) (many : Nat) : Prop where
  par1 : 1 ≤ h.par
  par2 : h.par ≤ 2
  size1 : 1 ≤ h.size
  size2 : h.size ≤ 16
  rows1 : 1 ≤ h.rows
  rows2 : h.rows ≤ 24
  width1 : h.par + 1 ≤ h.width
  width2 : h.width ≤ 10
  many : (many = h.width ∧ h.moved = 0) ∨ (many = h.width + 1 ∧ many ≤ 10 ∧ h.moved < h.rows)
  sp : h.spares ≤ 1000000
theorem headOk {par size rows width moved spares many : Nat} (h1 : 1 ≤ par) (h2 : par ≤ 2) (h3 : 1 ≤ size) (h4 : size ≤ 16) (h5 : 1 ≤ rows) (h6 : rows ≤ 24) (h7 : par + 1 ≤ width) (h8 : width ≤ 10)
    (h9 : (many = width ∧ moved = 0) ∨ (many = width + 1 ∧ many ≤ 10 ∧ moved < rows)) (h10 : spares ≤ 1000000) : (⟨par, size, rows, width, moved, spares⟩ : Head).Ok many := ⟨h1, h2, h3, h4, h5, h6, h7, h8, h9, h10⟩
def bD (b : Blk) : Dv := .tup (b.map fun n => dn n)
def oD : Option Blk → Dv
  | none => .non
  | some b => bD b
abbrev Disk := Option (List (Option Blk))
def kD : Disk → Dv
  | none => .non
  | some bs => .tup (bs.map oD)
inductive Note where
  | block (disk row : Nat) (b : Blk)
  | fin (many width moved : Nat)
def nD : Note → Dv
  | .block disk row b => .tup [.str ("block" : Str), dn disk, dn row, bD b]
  | .fin many width moved => .tup [.str ("end" : Str), dn many, dn width, dn moved]
structure Store where
  head : Head
  disks : List Disk
  journal : List Note
def Store.d (s : Store) : Dv := .tup [s.head.d, .tup (s.disks.map kD), .tup (s.journal.map nD)]
def BlkOk' (b : Blk) (size : Nat) : Prop := b.length = size ∧ ∀ x ∈ b, x < 256
def DiskOk (k : Disk) (size rows : Nat) : Prop := ∀ bs, k = some bs → bs.length = rows ∧ ∀ o ∈ bs, ∀ b, o = some b → BlkOk' b size
def WidthsOk (w m par rows many : Nat) : Prop := par + 1 ≤ w ∧ w ≤ 10 ∧ ((many = w ∧ m = 0) ∨ (many = w + 1 ∧ many ≤ 10 ∧ m < rows))
def NoteOk (h : Head) (many : Nat) (i : Nat) (last : Bool) : Note → Prop
  | .block disk row b => disk < many ∧ row < h.rows ∧ BlkOk' b h.size
  | .fin k w m => last = true ∧ k = i ∧ WidthsOk w m h.par h.rows many
structure Store.Ok (s : Store) : Prop where
  head : s.head.Ok s.disks.length
  disks : ∀ k ∈ s.disks, DiskOk k s.head.size s.head.rows
  journal : ∀ i n, s.journal[i]? = some n → NoteOk s.head s.disks.length i (decide (i + 1 = s.journal.length)) n
theorem blockB_ok {b : Blk} {size : Nat} (h : BlkOk' b size) : blockB (bD b) size = true := by
  unfold blockB bD
  simp only [List.length_map, h.1, decide_true, Bool.true_and, List.all_map, List.all_eq_true]
  intro x hx
  have := h.2 x hx
  simp [betwB]
  omega
theorem diskB_ok {k : Disk} {size rows : Nat} (h : DiskOk k size rows) : diskB (kD k) size rows = true := by
  cases k with
  | none => rfl
  | some bs =>
    obtain ⟨h1, h2⟩ := h bs rfl
    simp only [kD, diskB, List.length_map, h1, decide_true, Bool.true_and, List.all_map, List.all_eq_true]
    intro o ho
    cases o with
    | none => rfl
    | some b =>
      have := blockB_ok (h2 _ ho b rfl)
      simp only [Function.comp, oD, this, Bool.or_true]
theorem widthsB_ok {w m par rows many : Nat} (h : WidthsOk w m par rows many) : widthsB (dn w) (dn m) par rows many = true := by
  obtain ⟨h1, h2, h3⟩ := h
  unfold widthsB
  simp only [dn, Bool.and_eq_true, decide_eq_true_eq]
  refine ⟨⟨by omega, by omega⟩, ?_⟩
  rcases h3 with ⟨e, e2⟩ | ⟨e, e2, e3⟩
  · rw [if_pos (by omega)]
    simp [e2]
  · rw [if_neg (by omega)]
    simp only [Bool.and_eq_true, decide_eq_true_eq]
    omega
theorem headB_ok {h : Head} {many : Nat} (k : h.Ok many) : headB h.d many = true := by
  obtain ⟨h1, h2, h3, h4, h5, h6, h7, h8, h9, h10⟩ := k
  have hw : widthsB (dn h.width) (dn h.moved) h.par h.rows many = true := widthsB_ok ⟨h7, h8, h9⟩
  simp only [dn] at hw
  simp only [headB, Head.d, dn, hw, betwB, natB, Bool.and_eq_true, decide_eq_true_eq, and_true]
  omega
theorem noteB_ok {h : Head} {many i : Nat} {last : Bool} {n : Note} (k : NoteOk h many i last n) : noteB (nD n) i h.par h.size h.rows many = true := by
  cases n with
  | block disk row b =>
    obtain ⟨h1, h2, h3⟩ := k
    have hb := blockB_ok h3
    have ne : ¬ ("block" : Str) = ("end" : Str) := by decide
    simp only [nD, noteB, if_neg ne, if_pos, hb, betwB, dn, Bool.and_eq_true, decide_eq_true_eq, and_true]
    omega
  | fin kk w m =>
    obtain ⟨h1, h2, h3⟩ := k
    have hw := widthsB_ok h3
    simp only [dn] at hw
    simp only [nD, noteB, if_pos, dn, hw, Bool.and_true, decide_eq_true_eq]
    omega
theorem storeB_ok {s : Store} (h : s.Ok) : storeB s.d = true := by
  have h1 := headB_ok h.head
  have h2 : ∀ k ∈ s.disks, diskB (kD k) s.head.size s.head.rows = true := fun k hk => diskB_ok (h.disks k hk)
  have e : s.d = .tup [.tup [dn s.head.par, dn s.head.size, dn s.head.rows, dn s.head.width, dn s.head.moved, dn s.head.spares], .tup (s.disks.map kD), .tup (s.journal.map nD)] := rfl
  rw [e]
  simp only [storeB, dn, List.length_map, Bool.and_eq_true]
  refine ⟨h1, ?_, ?_⟩
  · simp only [List.all_map, List.all_eq_true]
    exact fun k hk => h2 k hk
  · simp only [journalB, List.length_map, Bool.and_eq_true, List.all_eq_true]
    refine ⟨fun i hi => ?_, fun d hd => ?_⟩
    · have hl : i < s.journal.length := List.mem_range.mp hi
      have := noteB_ok (h.journal i _ (List.getElem?_eq_getElem hl))
      simpa [List.getD, hl] using this
    · obtain ⟨i, hi, e⟩ := List.mem_iff_getElem.mp hd
      simp at hi e
      have hl : i < s.journal.length := by omega
      have k := h.journal i _ (List.getElem?_eq_getElem hl)
      rw [decide_eq_false (by omega)] at k
      subst e
      cases q : s.journal[i] with
      | block disk row b => simp [nD, isBlk]
      | fin kk w m => rw [q] at k; exact absurd k.1 (by decide)
def newS (par size rows width spares : Nat) : Store := ⟨⟨par, size, rows, width, 0, spares⟩, List.replicate width (some (List.replicate rows (some (List.replicate size 0)))), []⟩
theorem pl_block (n : Nat) (b : Blk) : Pl (n + 1) (bD b) := by
  intro d hd
  obtain ⟨x, _, rfl⟩ := List.mem_map.mp hd
  cases n <;> trivial
theorem pl_oblock (n : Nat) (b : Option Blk) : Pl (n + 1) (oD b) := by
  cases b with
  | none => trivial
  | some b => exact pl_block n b
theorem pl_disk (n : Nat) (k : Disk) : Pl (n + 2) (kD k) := by
  cases k with
  | none => trivial
  | some bs =>
    intro d hd
    obtain ⟨x, _, rfl⟩ := List.mem_map.mp hd
    exact pl_oblock n x
theorem pl_str {n : Nat} {x : Str} (h : PyData.canLay0 (.str x) = true) : Pl n (.str x) := by cases n <;> exact h
theorem pl_int {n : Nat} {i : Int} : Pl n (.int i) := by cases n <;> trivial
theorem lay_block : PyData.canLay0 (.str ("block" : Str)) = true := by decide +kernel
theorem lay_end : PyData.canLay0 (.str ("end" : Str)) = true := by decide +kernel
theorem pl_note (n : Nat) (k : Note) : Pl (n + 2) (nD k) := by
  cases k with
  | block disk row b =>
    intro d hd
    simp only [nD, List.mem_cons, List.not_mem_nil, or_false] at hd
    rcases hd with rfl | rfl | rfl | rfl
    · exact pl_str lay_block
    · exact pl_int
    · exact pl_int
    · exact pl_block n b
  | fin a b c =>
    intro d hd
    simp only [nD, List.mem_cons, List.not_mem_nil, or_false] at hd
    rcases hd with rfl | rfl | rfl | rfl
    · exact pl_str lay_end
    · exact pl_int
    · exact pl_int
    · exact pl_int
theorem pl_head (n : Nat) (h : Head) : Pl (n + 1) h.d := by
  intro d hd
  simp only [List.mem_cons, List.not_mem_nil, or_false] at hd
  rcases hd with rfl | rfl | rfl | rfl | rfl | rfl <;> exact pl_int
theorem pl_store (n : Nat) (s : Store) : Pl (n + 4) s.d := by
  intro d hd
  simp only [List.mem_cons, List.not_mem_nil, or_false] at hd
  rcases hd with rfl | rfl | rfl
  · exact pl_head _ _
  · intro d hd
    obtain ⟨x, _, rfl⟩ := List.mem_map.mp hd
    exact pl_disk n x
  · intro d hd
    obtain ⟨x, _, rfl⟩ := List.mem_map.mp hd
    exact pl_note n x
structure Store.Fit (s : Store) : Prop where
  disks : s.disks.length ≤ 1000000
  journal : s.journal.length ≤ 1000000
  rows : ∀ k ∈ s.disks, ∀ bs, k = some bs → bs.length ≤ 1000000 ∧ ∀ o ∈ bs, ∀ b, o = some b → b.length ≤ 1000000
  notes : ∀ n ∈ s.journal, ∀ i r b, n = .block i r b → b.length ≤ 1000000
def Store.wide (s : Store) (row : Nat) : Nat := s.head.width + (if row < s.head.moved then 1 else 0)
def Store.cell (s : Store) (disk row : Nat) : Option Blk := match s.disks.getD disk none with
  | none => none
  | some bs => bs.getD row none
def Store.row (s : Store) (row : Nat) : List (Option Blk) := (List.range (s.wide row)).map fun j => s.cell ((row + j) % s.wide row) row
theorem Store.row_len {s : Store} {row : Nat} : (s.row row).length = s.wide row := by simp [Store.row]
theorem Store.Ok.wide_le {s : Store} (h : s.Ok) (row : Nat) : s.wide row ≤ s.disks.length := by
  have := h.head.many
  unfold Store.wide
  split <;> omega
theorem Store.Ok.many_le {s : Store} (h : s.Ok) : s.disks.length ≤ 10 := by
  have := h.head.many
  have := h.head.width2
  omega
theorem Store.Ok.wide_ten {s : Store} (h : s.Ok) (row : Nat) : s.wide row ≤ 10 := Nat.le_trans (h.wide_le row) h.many_le
theorem Store.Ok.disk {s : Store} (h : s.Ok) {i : Nat} : DiskOk (s.disks.getD i none) s.head.size s.head.rows := by
  by_cases hi : i < s.disks.length
  · have : s.disks.getD i none ∈ s.disks := by
      rw [List.getD_eq_getElem?_getD, List.getElem?_eq_getElem hi]
      exact List.getElem_mem hi
    exact h.disks _ this
  · rw [List.getD_eq_getElem?_getD, List.getElem?_eq_none (by omega)]
    exact fun bs e => nomatch e
def Store.kept (s : Store) : Nat := s.head.rows * (s.head.width - s.head.par)
end Law
namespace Law
open PySem L2 HC PyProof.Rows
def figS : Str := ("0123456789abcdef" : Str)
def hexT (k : Nat) : Str := ⟨#[figS.cps.toList.getD k 0]⟩
def byteT (b : Nat) : Str := hexT (b / 16) ++ hexT (b % 16)
def blkT (b : Blk) : Str := Txt.join ("" : Str) (b.map byteT)
def oT : Option Blk → Str
  | none => ("-" : Str)
  | some b => blkT b
def diskT : Disk → Str
  | none => ("lost" : Str)
  | some bs => Txt.join (" " : Str) (("disk" : Str) :: bs.map oT)
def noteT : Note → Str
  | .block d r b => Txt.join (" " : Str) [("note" : Str), strI d, strI r, blkT b]
  | .fin a w m => Txt.join (" " : Str) [("end" : Str), strI a, strI w, strI m]
def headT (h : Head) : Str := Txt.join (" " : Str) [("store" : Str), strI h.par, strI h.size, strI h.rows, strI h.width, strI h.moved, strI h.spares]
def rowsT (s : Store) : List Str := headT s.head :: (s.disks.map diskT ++ s.journal.map noteT)
def storeT (s : Store) : Str := Txt.join ("\n" : Str) (rowsT s)
theorem join_le (y : Str) (ys : List Str) : (Txt.join y ys).length ≤ (ys.map (·.length)).sum + ys.length * y.length := by
  show (Builtin.Str.glued y ys).length ≤ _
  rw [StrLaws.glued_eq_join]
  cases ys with
  | nil => exact Nat.zero_le _
  | cons a l =>
    rw [len_join_cons, List.length_cons, Nat.add_mul, Nat.one_mul]
    omega
theorem sum_le {ys : List Str} {B : Nat} (h : ∀ y ∈ ys, y.length ≤ B) : (ys.map (·.length)).sum ≤ ys.length * B := by
  induction ys with
  | nil => simp
  | cons y ys ih =>
    rw [List.map_cons, List.sum_cons, List.length_cons, Nat.add_mul, Nat.one_mul]
    have := h y List.mem_cons_self
    have := ih fun z hz => h z (List.mem_cons_of_mem _ hz)
    omega
theorem len_num {n : Nat} (h : n < 10000000000) : (strI (n : Int)).length ≤ 10 := PySem.W.KT.len_num (Int.natCast_nonneg n) (by omega)
theorem log_num {n : Nat} (h : n < 10000000000) : ((n : Int)).natAbs.log2 < 1920 := by
  rw [Int.natAbs_natCast]
  by_cases z : n = 0
  · rw [z]; decide
  · exact Nat.lt_of_lt_of_le ((Nat.log2_lt z).mpr (show n < 2 ^ 34 by omega)) (by decide)
theorem len_byteT (b : Nat) : (byteT b).length = 2 := by
  unfold byteT
  rw [Str.length_append]
  rfl
theorem len_blkT (b : Blk) : (blkT b).length ≤ 2 * b.length := by
  unfold blkT
  have h1 := join_le ("" : Str) (b.map byteT)
  have h2 := sum_le (ys := b.map byteT) (B := 2) fun y hy => by
    obtain ⟨x, _, rfl⟩ := List.mem_map.mp hy
    rw [len_byteT]
    exact Nat.le_refl _
  have h3 : ("" : Str).length = 0 := by decide
  rw [h3, Nat.mul_zero] at h1
  rw [List.length_map] at h2
  omega
def accT (b : Blk) : Str := b.foldl (fun a x => a ++ hexT (x / 16) ++ hexT (x % 16)) ("" : Str)
theorem joinL_nil : ∀ (L : List (List Nat)), TL.joinL [] L = L.flatten
  | [] => rfl
  | [p] => by simp [TL.joinL]
  | p :: q :: r => by
    show p ++ ([] ++ TL.joinL [] (q :: r)) = _
    rw [List.nil_append, joinL_nil (q :: r)]
    rfl
theorem tl_empty : TL.tl ("" : Str) = [] := by decide
theorem tl_acc : ∀ (b : Blk) (a : Str), TL.tl (b.foldl (fun a x => a ++ hexT (x / 16) ++ hexT (x % 16)) a) = TL.tl a ++ ((b.map byteT).map TL.tl).flatten
  | [], a => by simp
  | x :: b, a => by
    rw [List.foldl_cons, tl_acc b, List.map_cons, List.map_cons, List.flatten_cons]
    unfold byteT
    simp only [TL.tl_append, List.append_assoc]
theorem acc_blk (b : Blk) : accT b = blkT b := by
  refine TL.ext_tl ?_
  unfold accT blkT
  rw [tl_acc, tl_empty, List.nil_append]
  show _ = TL.tl (Builtin.Str.glued ("" : Str) (b.map byteT))
  rw [StrLaws.glued_eq_join, TL.tl_join, tl_empty, joinL_nil]
theorem fig_at {k : Nat} (h : k < 16) : atI figS.cps.toList (k : Int) = some (figS.cps.toList.getD k 0) := by
  match k, h with
  | 0, _ | 1, _ | 2, _ | 3, _ | 4, _ | 5, _ | 6, _ | 7, _ | 8, _ | 9, _ | 10, _ | 11, _ | 12, _ | 13, _ | 14, _ | 15, _ => decide +kernel
  | k + 16, h => omega
theorem len_oT {o : Option Blk} (h : ∀ b, o = some b → b.length ≤ 16 ∧ ∀ x ∈ b, x < 256) : (oT o).length ≤ 32 := by
  cases o with
  | none => show ("-" : Str).length ≤ 32; decide
  | some b =>
    have h1 := len_blkT b
    have h2 := (h b rfl).1
    exact Nat.le_trans h1 (by omega)
theorem size_disk {bs : List (Option Blk)} (hl : bs.length ≤ 24) (h : ∀ o ∈ bs, ∀ b, o = some b → b.length ≤ 16 ∧ ∀ x ∈ b, x < 256) : ((("disk" : Str) :: bs.map oT).map (·.length)).sum + (("disk" : Str) :: bs.map oT).length * (" " : Str).length ≤ 900 := by
  have h2 := sum_le (ys := ("disk" : Str) :: bs.map oT) (B := 32) fun y hy => by
    rcases List.mem_cons.mp hy with rfl | hy
    · decide
    · obtain ⟨o, ho, rfl⟩ := List.mem_map.mp hy
      exact len_oT (h o ho)
  have h3 : (" " : Str).length = 1 := by decide
  rw [h3]
  have e : (("disk" : Str) :: bs.map oT).length = bs.length + 1 := by simp
  rw [e] at h2 ⊢
  omega
def NtOk : Note → Prop
  | .block d r b => d < 10000000000 ∧ r < 10000000000 ∧ b.length ≤ 16 ∧ ∀ x ∈ b, x < 256
  | .fin a w m => a < 10000000000 ∧ w < 10000000000 ∧ m < 10000000000
theorem size_note {d r : Nat} {b : Blk} (h1 : d < 10000000000) (h2 : r < 10000000000) (h3 : b.length ≤ 16) : (([("note" : Str), strI d, strI r, blkT b]).map (·.length)).sum + ([("note" : Str), strI d, strI r, blkT b]).length * (" " : Str).length ≤ 900 := by
  have e1 := len_num h1
  have e2 := len_num h2
  have e3 := len_blkT b
  have h4 : (" " : Str).length = 1 := by decide
  have h5 : ("note" : Str).length = 4 := by decide
  simp only [List.map_cons, List.map_nil, List.sum_cons, List.sum_nil, List.length_cons, List.length_nil, h4, h5]
  omega
theorem size_end {a w m : Nat} (h1 : a < 10000000000) (h2 : w < 10000000000) (h3 : m < 10000000000) : (([("end" : Str), strI a, strI w, strI m]).map (·.length)).sum + ([("end" : Str), strI a, strI w, strI m]).length * (" " : Str).length ≤ 900 := by
  have e1 := len_num h1
  have e2 := len_num h2
  have e3 := len_num h3
  have h4 : (" " : Str).length = 1 := by decide
  have h5 : ("end" : Str).length = 3 := by decide
  simp only [List.map_cons, List.map_nil, List.sum_cons, List.sum_nil, List.length_cons, List.length_nil, h4, h5]
  omega
theorem size_head {h : Head} {many : Nat} (ok : h.Ok many) : (([("store" : Str), strI h.par, strI h.size, strI h.rows, strI h.width, strI h.moved, strI h.spares]).map (·.length)).sum + ([("store" : Str), strI h.par, strI h.size, strI h.rows, strI h.width, strI h.moved, strI h.spares]).length * (" " : Str).length ≤ 900 := by
  have mv : h.moved < 10000000000 := by
    have := ok.rows2
    rcases ok.many with q | q <;> omega
  have e1 := len_num (n := h.par) (by have := ok.par2; omega)
  have e2 := len_num (n := h.size) (by have := ok.size2; omega)
  have e3 := len_num (n := h.rows) (by have := ok.rows2; omega)
  have e4 := len_num (n := h.width) (by have := ok.width2; omega)
  have e5 := len_num mv
  have e6 := len_num (n := h.spares) (by have := ok.sp; omega)
  have h4 : (" " : Str).length = 1 := by decide
  have h5 : ("store" : Str).length = 5 := by decide
  simp only [List.map_cons, List.map_nil, List.sum_cons, List.sum_nil, List.length_cons, List.length_nil, h4, h5]
  omega
def hdNs (h : Head) : List Nat := [h.par, h.size, h.rows, h.width, h.moved, h.spares]
theorem hd_ok {h : Head} {many : Nat} (ok : h.Ok many) : ∀ x ∈ hdNs h, x < 10000000000 := fun x hx => by
  have := ok.par2
  have := ok.size2
  have := ok.rows2
  have := ok.width2
  have := ok.sp
  have mv : h.moved < 10000000000 := by rcases ok.many with q | q <;> omega
  unfold hdNs at hx
  simp only [List.mem_cons, List.not_mem_nil, or_false] at hx
  rcases hx with rfl | rfl | rfl | rfl | rfl | rfl <;> omega
theorem len_disk {s : Store} (ok : s.Ok) {k : Disk} (hk : k ∈ s.disks) : (diskT k).length ≤ 900 := by
  cases k with
  | none => show ("lost" : Str).length ≤ 900; decide
  | some bs =>
    obtain ⟨h1, h2⟩ := ok.disks _ hk bs rfl
    refine Nat.le_trans (join_le _ _) (size_disk (by rw [h1]; exact ok.head.rows2) fun o ho b hb => ?_)
    obtain ⟨h3, h4⟩ := h2 o ho b hb
    exact ⟨by rw [h3]; exact ok.head.size2, h4⟩
theorem len_note {n : Note} (h : NtOk n) : (noteT n).length ≤ 900 := by
  cases n with
  | block d r b => exact Nat.le_trans (join_le _ _) (size_note h.1 h.2.1 h.2.2.1)
  | fin a w m => exact Nat.le_trans (join_le _ _) (size_end h.1 h.2.1 h.2.2)
open PySem.W.KSb in
theorem asc_joinT {y : Str} (hy : Asc y) : ∀ {ys : List Str}, (∀ z ∈ ys, Asc z) → Asc (Str.join y ys)
  | [], _ => fun c hc => nomatch (show c ∈ ([] : List Nat) from hc)
  | [a], h => h a List.mem_cons_self
  | a :: b :: r, h => asc_app (asc_app (h a List.mem_cons_self) hy) (asc_joinT hy fun z hz => h z (List.mem_cons_of_mem _ hz))
open PySem.W.KSb in
theorem asc_join' {y : Str} (hy : Asc y) {ys : List Str} (h : ∀ z ∈ ys, Asc z) : Asc (Txt.join y ys) := by
  show Asc (Builtin.Str.glued y ys)
  rw [StrLaws.glued_eq_join]
  exact asc_joinT hy h
section
open PySem.W.KSb
theorem fig_lt (k : Nat) : figS.cps.toList.getD k 0 < 128 := by
  by_cases h : k < 16
  · have a : ∀ k, k < 16 → figS.cps.toList.getD k 0 < 128 := by decide +kernel
    exact a k h
  · rw [List.getD_eq_getElem?_getD, List.getElem?_eq_none (by show figS.cps.toList.length ≤ k; exact Nat.le_trans (show figS.cps.toList.length ≤ 16 by decide) (by omega))]
    decide
theorem asc_hex (k : Nat) : Asc (hexT k) := fun c hc => by
  have hc : c ∈ [figS.cps.toList.getD k 0] := hc
  rw [List.mem_singleton.mp hc]
  exact fig_lt k
theorem asc_blk (b : Blk) : Asc (blkT b) := asc_join' (asc_of (by decide +kernel)) fun z hz => by
  obtain ⟨x, _, rfl⟩ := List.mem_map.mp hz
  exact asc_app (asc_hex _) (asc_hex _)
theorem asc_oT (o : Option Blk) : Asc (oT o) := by
  cases o with
  | none => exact asc_of (show (("-" : Str).cps.toList.all fun c => decide (c < 128)) = true by decide +kernel)
  | some b => exact asc_blk b
theorem asc_sp : Asc (" " : Str) := asc_of (by decide +kernel)
theorem asc_disk (k : Disk) : Asc (diskT k) := by
  cases k with
  | none => exact asc_of (show (("lost" : Str).cps.toList.all fun c => decide (c < 128)) = true by decide +kernel)
  | some bs =>
    refine asc_join' asc_sp fun z hz => ?_
    rcases List.mem_cons.mp hz with rfl | hz
    · exact asc_of (by decide +kernel)
    · obtain ⟨o, _, rfl⟩ := List.mem_map.mp hz
      exact asc_oT o
theorem asc_note (n : Note) : Asc (noteT n) := by
  cases n with
  | block d r b =>
    refine asc_join' asc_sp fun z hz => ?_
    simp only [List.mem_cons, List.not_mem_nil, or_false] at hz
    rcases hz with rfl | rfl | rfl | rfl
    · exact asc_of (by decide +kernel)
    · exact asc_num _
    · exact asc_num _
    · exact asc_blk b
  | fin a w m =>
    refine asc_join' asc_sp fun z hz => ?_
    simp only [List.mem_cons, List.not_mem_nil, or_false] at hz
    rcases hz with rfl | rfl | rfl | rfl
    · exact asc_of (by decide +kernel)
    · exact asc_num _
    · exact asc_num _
    · exact asc_num _
theorem asc_head (h : Head) : Asc (headT h) := asc_join' asc_sp fun z hz => by
  simp only [List.mem_cons, List.not_mem_nil, or_false] at hz
  rcases hz with rfl | rfl | rfl | rfl | rfl | rfl | rfl
  · exact asc_of (by decide +kernel)
  all_goals exact asc_num _
theorem asc_store (s : Store) : Asc (storeT s) := asc_join' (asc_of (by decide +kernel)) fun z hz => by
  unfold rowsT at hz
  rcases List.mem_cons.mp hz with rfl | hz
  · exact asc_head _
  · rcases List.mem_append.mp hz with hz | hz
    · obtain ⟨k, _, rfl⟩ := List.mem_map.mp hz
      exact asc_disk k
    · obtain ⟨n, _, rfl⟩ := List.mem_map.mp hz
      exact asc_note n
end
end Law
set_option maxHeartbeats 1000000
namespace Law
open PySem L2 HC PyProof.Rows NumText
def digW (w : Str) : Bool := w.cps.toList.all fun c => decide (48 ≤ c ∧ c ≤ 57)
def numW (w : Str) : Option Nat := if (1 ≤ w.length ∧ w.length ≤ 12) ∧ digW w = true then (if w.cps.toList.getD 0 0 = 48 ∧ w ≠ ("0" : Str) then none else some (digitsVal w.cps.toList)) else none
theorem digW_all {w : Str} (h : digW w = true) : AllDigits w.cps.toList := fun c hc => of_decide_eq_true (List.all_eq_true.mp h c hc)
theorem int_dig {w : Str} (h : digW w = true) (h1 : 1 ≤ w.length) (h2 : w.length ≤ 12) : intText? w = some ((digitsVal w.cps.toList : Nat) : Int) := by
  have e : w.cps.toList.length = w.length := by simp [Str.length]
  refine intText_digits (digW_all h) (fun z => ?_) (by omega)
  rw [z] at e
  have e : 0 = w.length := e
  omega
theorem val_lt : ∀ (cs : List Nat) (a : Nat), AllDigits cs → cs.foldl (fun acc c => acc * 10 + (c - 48)) a < (a + 1) * 10 ^ cs.length
  | [], a, _ => by simp
  | c :: cs, a, h => by
    have ih := val_lt cs (a * 10 + (c - 48)) h.tail
    have hc := h.head
    refine Nat.lt_of_lt_of_le ih ?_
    rw [List.length_cons, Nat.pow_succ, Nat.mul_comm (10 ^ cs.length) 10, ← Nat.mul_assoc]
    exact Nat.mul_le_mul_right _ (by omega)
theorem strI_cps (n : Nat) : (strI (n : Int)).cps.toList = (Nat.toDigits 10 n).map Char.toNat := PySem.W.KIN.signs_num n
theorem strI_all (n : Nat) : AllDigits (strI (n : Int)).cps.toList := by
  rw [strI_cps]
  exact TL.numL_digits n
theorem strI_zero : strI ((0 : Nat) : Int) = ("0" : Str) := by decide +kernel
theorem numW_num {n : Nat} (h : n < 10 ^ 12) : numW (strI (n : Int)) = some n := by
  have e : (strI (n : Int)).cps.toList.length = (strI (n : Int)).length := by simp [Str.length]
  have all := strI_all n
  have hd : digW (strI (n : Int)) = true := List.all_eq_true.mpr fun c hc => decide_eq_true (all c hc)
  have v : digitsVal (strI (n : Int)).cps.toList = n := by
    rw [strI_cps]
    exact PySem.W.KIN.val_back n
  have l1 : 1 ≤ (strI (n : Int)).length := by
    rw [← e, strI_cps, List.length_map]
    exact tDigits_len_ge 10 n
  have l2 : (strI (n : Int)).length ≤ 12 := by
    rw [← e, strI_cps, List.length_map]
    exact digits10_le (by decide) h
  unfold numW
  rw [if_pos ⟨⟨l1, l2⟩, hd⟩, if_neg, v]
  rintro ⟨h0, hne⟩
  by_cases n0 : n = 0
  · subst n0
    exact hne strI_zero
  · cases q : (strI (n : Int)).cps.toList with
    | nil => rw [q] at e; have e : 0 = _ := e; omega
    | cons c cs =>
      rw [q] at h0 v e all
      have h0 : c = 48 := h0
      subst h0
      rw [digitsVal_zero] at v
      have b := val_lt cs 0 all.tail
      have b : digitsVal cs < (0 + 1) * 10 ^ cs.length := b
      rw [v, Nat.zero_add, Nat.one_mul] at b
      by_cases c0 : cs.length = 0
      · rw [c0] at b
        have : n < 1 := b
        omega
      · have g := digits10_le (n := n) (k := cs.length) (by omega) b
        have g2 : (strI (n : Int)).cps.toList.length = (Nat.toDigits 10 n).length := by rw [strI_cps, List.length_map]
        rw [q] at g2
        have g2 : cs.length + 1 = _ := g2
        omega
def numV : Option Nat → Dv
  | none => .non
  | some n => dn n
def numsV : Option (List Nat) → Dv
  | none => .non
  | some ns => .tup (ns.map fun n => dn n)
def numsW (ws : List Str) (many : Nat) : Option (List Nat) := if ws.length = many ∧ none ∉ ws.map numW then some (ws.filterMap numW) else none
def figI (c : Nat) : Nat := figS.cps.toList.idxOf c
def isFig (c : Nat) : Bool := decide (c ∈ figS.cps.toList)
def isB (w : Str) : Bool := decide (w = ("-" : Str)) || (decide (0 < w.length) && (decide (w.length % 2 = 0) && w.cps.toList.all isFig))
def pairV (L : List Nat) : Blk := (List.zip (nth2 0 L) (nth2 1 L)).map fun p => 16 * p.1 + p.2
def blkW (w : Str) : Option Blk := if w = ("-" : Str) then none else some (pairV (w.cps.toList.map figI))
theorem fig_occ : ∀ k, k < 16 → Builtin.Str.occurrences figS ⟨#[figS.cps.toList.getD k 0]⟩ 0 figS.length 1 = [k] ∧ figI (figS.cps.toList.getD k 0) = k := by decide +kernel
theorem fig_find {c : Nat} (h : isFig c = true) : Builtin.Str.occurrences figS ⟨#[c]⟩ 0 figS.length 1 = [figI c] ∧ figI c < 16 := by
  have hm := of_decide_eq_true h
  obtain ⟨k, hk, e⟩ := List.getElem_of_mem hm
  have l16 : figS.cps.toList.length = 16 := by decide +kernel
  have := fig_occ k (by omega)
  rw [List.getD_eq_getElem?_getD, List.getElem?_eq_getElem hk, Option.getD_some, e] at this
  exact ⟨by rw [this.1, this.2], by rw [this.2]; omega⟩
theorem one_lt (a b : Nat) : ([a] < [b]) ↔ a < b := by
  rw [List.cons_lt_cons_iff]
  simp
theorem sg_lo (c : Nat) : (!decide ((⟨#[c]⟩ : Str).cps.toList < ("0" : Str).cps.toList)) = decide (48 ≤ c) := by
  have e : ("0" : Str).cps.toList = [48] := by decide +kernel
  rw [e]
  show (!decide ([c] < [48])) = _
  rw [decide_eq_decide.mpr (one_lt c 48), ← decide_not]
  exact decide_eq_decide.mpr (by omega)
theorem sg_hi (c : Nat) : (!decide (("9" : Str).cps.toList < (⟨#[c]⟩ : Str).cps.toList)) = decide (c ≤ 57) := by
  have e : ("9" : Str).cps.toList = [57] := by decide +kernel
  rw [e]
  show (!decide ([57] < [c])) = _
  rw [decide_eq_decide.mpr (one_lt 57 c), ← decide_not]
  exact decide_eq_decide.mpr (by omega)
def sgC : Dv → Nat
  | .str s => s.cps.toList.getD 0 0
  | _ => 0
theorem signs_mem {w : Str} {d : Dv} (h : d ∈ HC.signs w) : ∃ c, c ∈ w.cps.toList ∧ d = .str ⟨#[c]⟩ := by
  obtain ⟨c, hc, rfl⟩ := List.mem_map.mp h
  exact ⟨c, hc, rfl⟩
theorem signs_map {β : Type} (f : Nat → β) (w : Str) : (HC.signs w).map (fun d => f (sgC d)) = w.cps.toList.map f := by
  unfold HC.signs
  rw [List.map_map]
  exact List.map_congr_left fun c _ => rfl
theorem lay_stroke : PyData.canLay0 (.str ("-" : Str)) = true := by decide +kernel
theorem lay_zero : PyData.canLay0 (.str ("0" : Str)) = true := by decide +kernel
theorem sg_zero : (⟨#[48]⟩ : Str) = ("0" : Str) := by decide +kernel
theorem sg_zero_inv {c : Nat} (h : (⟨#[c]⟩ : Str) = ("0" : Str)) : c = 48 := by
  rw [← sg_zero] at h
  injection h with h
  simpa using h
theorem numV_none {o : Option Nat} : numV o = .non ↔ o = none := by
  cases o with
  | none => exact ⟨fun _ => rfl, fun _ => rfl⟩
  | some n => exact ⟨fun h => (by cases h), fun h => (by cases h)⟩
theorem non_mem {ws : List Str} : Dv.non ∈ (ws.map fun w => numV (numW w)) ↔ none ∈ ws.map numW := by
  rw [List.mem_map, List.mem_map]
  exact ⟨fun ⟨w, h, e⟩ => ⟨w, h, numV_none.mp e⟩, fun ⟨w, h, e⟩ => ⟨w, h, numV_none.mpr e⟩⟩
theorem nums_map : ∀ {ws : List Str}, none ∉ ws.map numW → (ws.map fun w => numV (numW w)) = (ws.filterMap numW).map fun n => dn n
  | [], _ => rfl
  | w :: ws, h => by
    rw [List.map_cons, List.mem_cons, not_or] at h
    cases e : numW w with
    | none => rw [e] at h; exact absurd rfl h.1
    | some n =>
      rw [List.map_cons, List.filterMap_cons, e, nums_map h.2]
      rfl
theorem pl_numV (o : Option Nat) : Pl 8 (numV o) := by
  cases o <;> trivial
theorem isB_figs {w : Str} (h : isB w = true) (hn : ¬ w = ("-" : Str)) : ∀ c ∈ w.cps.toList, isFig c = true := fun c hc => by
  unfold isB at h
  rw [decide_eq_false hn, Bool.false_or, Bool.and_eq_true, Bool.and_eq_true] at h
  exact List.all_eq_true.mp h.2.2 c hc
theorem nth2_map {α β : Type} (f : α → β) (xs : List α) {lo : Nat} : nth2 lo (xs.map f) = (nth2 lo xs).map f := by
  unfold nth2
  rw [List.length_map, List.map_filterMap]
  congr 1
  funext i
  rw [List.getElem?_map]
theorem zip_dnW : ∀ {A B : List Nat}, zipD (A.map fun n => dn n) (B.map fun n => dn n) = (List.zip A B).map fun p => pairD (dn p.1) (dn p.2)
  | [], _ => rfl
  | _ :: _, [] => rfl
  | a :: A, b :: B => by
    have ih := zip_dnW (A := A) (B := B)
    unfold zipD at ih ⊢
    rw [List.map_cons, List.map_cons, List.zipWith_cons_cons, ih]
    rfl
end Law
namespace Law
open PySem L2 HC PyProof.Rows
theorem Pn.le {n : Nat} {d : Dv} (h : Pn n d) : ∀ k, Pn (n + k) d
  | 0 => h
  | k + 1 => Pn.up (Pn.le h k)
structure BigOk (s : Store) : Prop where
  ok : s.Ok
  len : s.journal.length ≤ 10
  rows : 2 ≤ s.head.rows
  width : s.head.par + 2 ≤ s.head.width
  first : ∃ bs : List Blk, s.disks.getD 0 none = some (bs.map some) ∧ bs.length = s.head.rows ∧ ∀ b ∈ bs, BlkOk' b s.head.size
end Law
namespace Law
open PySem L2 HC PyProof.Rows
inductive Chg where
  | note (n : Note)
  | block (d r : Nat) (b : Blk)
  | spoil (d r : Nat) (b : Blk)
  | head (w m : Nat)
  | clear
  | add
  | lose (d : Nat)
  | bad (d r : Nat)
  | spare (d : Nat)
def freshK (h : Head) : Disk := some (List.replicate h.rows none)
def lessH (h : Head) : Head := ⟨h.par, h.size, h.rows, h.width, h.moved, h.spares - 1⟩
def Store.setCell (s : Store) (d r : Nat) (o : Option Blk) : Store := match s.disks.getD d none with
  | none => s
  | some bs => ⟨s.head, s.disks.set d (some (bs.set r o)), s.journal⟩
def applyC (s : Store) : Chg → Store
  | .note n => ⟨s.head, s.disks, s.journal ++ [n]⟩
  | .block d r b => s.setCell d r (some b)
  | .spoil d r b => s.setCell d r (some b)
  | .head w m => ⟨⟨s.head.par, s.head.size, s.head.rows, w, m, s.head.spares⟩, s.disks, s.journal⟩
  | .clear => ⟨s.head, s.disks, []⟩
  | .add => ⟨lessH s.head, s.disks ++ [freshK s.head], s.journal⟩
  | .lose d => ⟨s.head, s.disks.set d none, s.journal⟩
  | .bad d r => s.setCell d r none
  | .spare d => ⟨lessH s.head, s.disks.set d (freshK s.head), s.journal⟩
def noteLen : Note → Nat
  | .block _ _ b => b.length
  | .fin _ _ _ => 0
structure SC (s : Store) (n : Nat) : Prop where
  d1 : 1 ≤ s.disks.length
  d2 : s.disks.length ≤ 10 + n
  r1 : 1 ≤ s.head.rows
  r2 : s.head.rows ≤ 24
  z2 : s.head.size ≤ 16
  rows : ∀ k ∈ s.disks, ∀ bs, k = some bs → bs.length = s.head.rows ∧ ∀ o ∈ bs, ∀ b, o = some b → b.length ≤ 16
  j : s.journal.length ≤ 20 + n
  notes : ∀ x ∈ s.journal, noteLen x ≤ 16
theorem SC.up {s : Store} {n : Nat} (h : SC s n) (m : Nat) : SC s (n + m) := ⟨h.d1, by have := h.d2; omega, h.r1, h.r2, h.z2, h.rows, by have := h.j; omega, h.notes⟩
theorem c_from (xs : List Dv) (k : Nat) (h : k ≤ xs.length) : cutA xs (some (k : Int)) none = xs.drop k := by
  unfold cutA
  have e : HT.sIx xs.length 0 (some (k : Int)) = k := by
    show (if (k : Int) < 0 then ((k : Int) + (xs.length : Int)).toNat else min (k : Int).toNat xs.length) = _
    rw [if_neg (by omega)]
    omega
  rw [e]
  show (xs.drop k).take (xs.length - k) = _
  rw [List.take_of_length_le (by simp)]
abbrev BN := Nat × Nat × Blk
end Law
set_option maxHeartbeats 1000000
namespace Law
open PySem L2 HC PyProof.Rows NumText
inductive NtW where
  | fin (ns : List Nat)
  | blk (ns : List Nat) (b : Option Blk)
def ntV : NtW → Dv
  | .fin ns => .tup ([.str ("end" : Str)] ++ ns.map fun n => dn n)
  | .blk ns b => .tup (([.str ("block" : Str)] ++ ns.map fun n => dn n) ++ [oD b])
structure Dr where
  head : Option (List Nat)
  disks : List Disk
  notes : List NtW
def drF (h : Dv) (l1 l2 : Addr) : List (Str × Dv) := [(("head" : Str), h), (("disks" : Str), .ref l1), (("notes" : Str), .ref l2)]
structure DrAt (M0 M : Ms) (p : Addr) (dr : Dr) : Prop where
  sub : Sub M0 M
  p0 : M0 p = none
  ex : ∃ l1 l2, M0 l1 = none ∧ M0 l2 = none ∧ p ≠ l1 ∧ p ≠ l2 ∧ l1 ≠ l2 ∧ M p = some (.obj ("Draft" : Str) (drF (numsV dr.head) l1 l2)) ∧ M l1 = some (.lst (dr.disks.map kD)) ∧ M l2 = some (.lst (dr.notes.map ntV))
def putD (dr : Dr) (ws : List Str) : Option Dr :=
  if dr.notes ≠ [] then none else if ws = [("lost" : Str)] then some { dr with disks := dr.disks ++ [none] }
  else if ws.getD 0 ("" : Str) ≠ ("disk" : Str) ∨ ws.length < 2 ∨ ((ws.drop 1).all isB) = false then none else some { dr with disks := dr.disks ++ [some ((ws.drop 1).map blkW)] }
def putN (dr : Dr) (ws : List Str) : Option Dr :=
  if ws.getD 0 ("" : Str) = ("end" : Str) then (match numsW (ws.drop 1) 3 with | none => none | some ns => some { dr with notes := dr.notes ++ [.fin ns] })
  else (match numsW ((ws.drop 1).take 2) 2 with
    | none => none
    | some ns => if ws.getD 0 ("" : Str) ≠ ("note" : Str) ∨ ws.length ≠ 4 ∨ isB (ws.getD 3 ("" : Str)) = false then none else some { dr with notes := dr.notes ++ [.blk ns (blkW (ws.getD 3 ("" : Str)))] })
def putH (dr : Dr) (ws : List Str) : Option Dr := match numsW (ws.drop 1) 6 with
  | none => none
  | some ns => if ws.getD 0 ("" : Str) = ("store" : Str) then some { dr with head := some ns } else none
def putR (dr : Dr) (row : Str) : Option Dr :=
  if dr.head = none then putH dr (Txt.split row (" " : Str))
  else if (Txt.split row (" " : Str)).getD 0 ("" : Str) = ("disk" : Str) ∨ (Txt.split row (" " : Str)).getD 0 ("" : Str) = ("lost" : Str) then putD dr (Txt.split row (" " : Str))
  else putN dr (Txt.split row (" " : Str))
def WordsOk (ws : List Str) : Prop := ws ≠ [] ∧ (∀ w ∈ ws, PySem.W.KSb.Asc w ∧ w.length ≤ 100000) ∧ ws.length ≤ 100000
theorem DrAt.puts {M0 M : Ms} {p : Addr} {dr : Dr} (h : DrAt M0 M p dr) : ∃ l1 l2, M p = some (.obj ("Draft" : Str) (drF (numsV dr.head) l1 l2)) ∧ M l1 = some (.lst (dr.disks.map kD)) ∧ M l2 = some (.lst (dr.notes.map ntV)) ∧
    (∀ k, DrAt M0 (mup M l1 (.lst ((dr.disks ++ [k]).map kD))) p { dr with disks := dr.disks ++ [k] }) ∧ (∀ n, DrAt M0 (mup M l2 (.lst ((dr.notes ++ [n]).map ntV))) p { dr with notes := dr.notes ++ [n] }) ∧
    ∀ ns, DrAt M0 (mup M p (.obj ("Draft" : Str) (drF (numsV ns) l1 l2))) p { dr with head := ns } := by
  obtain ⟨sb, p0, l1, l2, a1, a2, n1, n2, n3, h1, h2, h3⟩ := h
  have off : ∀ {q : Addr} {c : Cell}, M0 q = none → Sub M0 (mup M q c) := fun {q c} hq => sb.mut hq
  exact ⟨l1, l2, h1, h2, h3, fun k => ⟨off a1, p0, l1, l2, a1, a2, n1, n2, n3, (mup_ne n1).trans h1, mup_same, (mup_ne n3.symm).trans h3⟩,
    fun n => ⟨off a2, p0, l1, l2, a1, a2, n1, n2, n3, (mup_ne n2).trans h1, (mup_ne n3).trans h2, mup_same⟩,
    fun ns => ⟨off p0, p0, l1, l2, a1, a2, n1, n2, n3, mup_same, (mup_ne n1.symm).trans h2, (mup_ne n2.symm).trans h3⟩⟩
theorem words_at {ws : List Str} {i : Nat} (h : i < ws.length) : atI (ws.map Dv.str) (i : Int) = some (.str (ws.getD i ("" : Str))) := HC.atI_nat (by rw [List.getElem?_map, List.getElem?_eq_getElem h, List.getD_eq_getElem?_getD, List.getElem?_eq_getElem h]; rfl)
theorem words_in {ws : List Str} {i : Nat} (h : i < ws.length) : ws.getD i ("" : Str) ∈ ws := by
  rw [List.getD_eq_getElem?_getD, List.getElem?_eq_getElem h]
  exact List.getElem_mem h
theorem words_pl {ws : List Str} (h : ∀ w ∈ ws, PySem.W.KSb.Asc w ∧ w.length ≤ 100000) : Pl 9 (.rol (ws.map Dv.str)) := fun d hd => by
  obtain ⟨w, hw, rfl⟩ := List.mem_map.mp hd
  exact lay_asc (h w hw).1
theorem map_str_inj : ∀ {xs ys : List Str}, xs.map Dv.str = ys.map Dv.str → xs = ys
  | [], [], _ => rfl
  | [], _ :: _, h => by cases h
  | _ :: _, [], h => by cases h
  | x :: xs, y :: ys, h => by
    rw [List.map_cons, List.map_cons] at h
    injection h with h1 h2
    rw [Dv.str.inj h1, map_str_inj h2]
theorem lay_words : PyData.canLay0 (.str ("lost" : Str)) = true ∧ PyData.canLay0 (.str ("disk" : Str)) = true ∧ PyData.canLay0 (.str ("end" : Str)) = true ∧ PyData.canLay0 (.str ("note" : Str)) = true ∧ PyData.canLay0 (.str ("store" : Str)) = true ∧ PyData.canLay0 (.str ("block" : Str)) = true := by decide +kernel
theorem fs_ne : ¬ ("head" : Str) = ("disks" : Str) ∧ ¬ ("head" : Str) = ("notes" : Str) ∧ ¬ ("disks" : Str) = ("notes" : Str) ∧ ¬ ("disks" : Str) = ("head" : Str) ∧ ¬ ("notes" : Str) = ("head" : Str) ∧ ¬ ("notes" : Str) = ("disks" : Str) := by decide +kernel
theorem dr_head0 (h : Dv) : putFd ("head" : Str) h [] = [(("head" : Str), h)] := rfl
theorem dr_disks0 (h d : Dv) : putFd ("disks" : Str) d [(("head" : Str), h)] = [(("head" : Str), h), (("disks" : Str), d)] := by
  show (if ("head" : Str) = ("disks" : Str) then _ else _) = _
  rw [if_neg fs_ne.1]
  rfl
theorem dr_notes0 (h d n : Dv) : putFd ("notes" : Str) n [(("head" : Str), h), (("disks" : Str), d)] = [(("head" : Str), h), (("disks" : Str), d), (("notes" : Str), n)] := by
  show (if ("head" : Str) = ("notes" : Str) then _ else (("head" : Str), h) :: if ("disks" : Str) = ("notes" : Str) then _ else _) = _
  rw [if_neg fs_ne.2.1, if_neg fs_ne.2.2.1]
  rfl
theorem dr_head1 (h g : Dv) (l1 l2 : Addr) : putFd ("head" : Str) g (drF h l1 l2) = drF g l1 l2 := by
  show (if ("head" : Str) = ("head" : Str) then _ else _) = _
  rw [if_pos rfl]
  rfl
theorem dr_lk (h : Dv) (l1 l2 : Addr) : (drF h l1 l2).lookup ("head" : Str) = some h ∧ (drF h l1 l2).lookup ("disks" : Str) = some (.ref l1) ∧ (drF h l1 l2).lookup ("notes" : Str) = some (.ref l2) := by
  unfold drF
  refine ⟨?_, ?_, ?_⟩ <;> simp only [List.lookup_cons] <;> rfl
theorem dr_no (h : Dv) (l1 l2 : Addr) : (drF h l1 l2).lookup ("put_disk" : Str) = none ∧ (drF h l1 l2).lookup ("put_note" : Str) = none ∧ (drF h l1 l2).lookup ("put_head" : Str) = none ∧ (drF h l1 l2).lookup ("put" : Str) = none ∧ (drF h l1 l2).lookup ("whole" : Str) = none := by
  unfold drF
  refine ⟨?_, ?_, ?_, ?_, ?_⟩ <;> simp only [List.lookup_cons] <;> rfl
theorem dr_len (h : Dv) (l1 l2 : Addr) : (drF h l1 l2).length < 1000 := by
  show 3 < 1000
  decide
theorem pl_oD (n : Nat) (o : Option Blk) : Pl (n + 1) (oD o) := by
  cases o with
  | none => trivial
  | some b => exact pl_block n b
theorem pl_ntV (n : NtW) : Pl 8 (ntV n) := by
  cases n with
  | fin ns =>
    intro d hd
    rcases List.mem_append.mp hd with h | h
    · rw [List.mem_singleton.mp h]
      exact lay_words.2.2.1
    · obtain ⟨n, _, rfl⟩ := List.mem_map.mp h
      trivial
  | blk ns b =>
    intro d hd
    rcases List.mem_append.mp hd with h | h
    · rcases List.mem_append.mp h with h | h
      · rw [List.mem_singleton.mp h]
        exact lay_words.2.2.2.2.2
      · obtain ⟨n, _, rfl⟩ := List.mem_map.mp h
        trivial
    · rw [List.mem_singleton.mp h]
      exact pl_oD 6 b
theorem pl_nts (ns : List NtW) : Pl 9 (.rol (ns.map ntV)) := fun d hd => by
  obtain ⟨n, _, rfl⟩ := List.mem_map.mp hd
  exact pl_ntV n
theorem nums_len {ws : List Str} {many : Nat} {ns : List Nat} (h : numsW ws many = some ns) : ns.length = many ∧ ws.length = many := by
  unfold numsW at h
  split at h
  · rename_i q
    cases h
    have e := congrArg List.length (nums_map q.2)
    rw [List.length_map, List.length_map] at e
    exact ⟨by rw [← e]; exact q.1, q.1⟩
  · cases h
theorem numsV_non {o : Option (List Nat)} : HC.isNon (numsV o) = o.isNone := by
  cases o <;> rfl
theorem spl_ok (s : Nat) : ∀ (l acc : List Nat), TL.spl [s] 0 acc l ≠ [] ∧ (TL.spl [s] 0 acc l).length ≤ l.length + 1 ∧ ∀ p ∈ TL.spl [s] 0 acc l, p.length ≤ acc.length + l.length ∧ ∀ c ∈ p, c ∈ acc ∨ c ∈ l
  | [], acc => by
    unfold TL.spl
    refine ⟨by simp, by simp, fun p hp => ?_⟩
    rw [List.mem_singleton.mp hp]
    exact ⟨by simp, fun c hc => .inl hc⟩
  | c :: l, acc => by
    unfold TL.spl
    split
    · obtain ⟨h1, h2, h3⟩ := spl_ok s l []
      refine ⟨by simp, by show _ + 1 ≤ l.length + 1 + 1; exact Nat.succ_le_succ h2, fun p hp => ?_⟩
      rcases List.mem_cons.mp hp with rfl | h
      · exact ⟨Nat.le_add_right _ _, fun d hd => .inl hd⟩
      · obtain ⟨a, b⟩ := h3 p h
        refine ⟨by rw [List.length_cons]; have a : p.length ≤ 0 + l.length := a; omega, fun d hd => .inr ?_⟩
        rcases b d hd with q | q
        · cases q
        · exact List.mem_cons_of_mem _ q
    · obtain ⟨h1, h2, h3⟩ := spl_ok s l (acc ++ [c])
      refine ⟨h1, by rw [List.length_cons]; omega, fun p hp => ?_⟩
      obtain ⟨a, b⟩ := h3 p hp
      refine ⟨by rw [List.length_append] at a; rw [List.length_cons]; have a : p.length ≤ acc.length + 1 + l.length := a; omega, fun d hd => ?_⟩
      rcases b d hd with q | q
      · rcases List.mem_append.mp q with q | q
        · exact .inl q
        · rw [List.mem_singleton.mp q]
          exact .inr (List.mem_cons_self ..)
      · exact .inr (List.mem_cons_of_mem _ q)
theorem split_words {x y : Str} {s : Nat} (hy : TL.tl y = [s]) (hk : y.cps.all (· < 256) = true) (ha : PySem.W.KSb.Asc x) (hl : x.length ≤ 50000) : WordsOk (Txt.split x y) := by
  have e := TL.split_spl x y (by rw [hy]; simp) (TL.kind_ok hk)
  rw [hy] at e
  obtain ⟨h1, h2, h3⟩ := spl_ok s (TL.tl x) []
  rw [← e] at h1 h2 h3
  have lx := TL.len_tl x
  refine ⟨fun z => h1 (by rw [z]; rfl), fun w hw => ?_, ?_⟩
  · obtain ⟨a, b⟩ := h3 (TL.tl w) (List.mem_map.mpr ⟨w, hw, rfl⟩)
    have lw := TL.len_tl w
    have a : (TL.tl w).length ≤ 0 + (TL.tl x).length := a
    refine ⟨fun c hc => ?_, by omega⟩
    rcases b c hc with q | q
    · cases q
    · exact ha c q
  · rw [List.length_map] at h2
    omega
theorem split_len {x y : Str} {s : Nat} (hy : TL.tl y = [s]) (hk : y.cps.all (· < 256) = true) {w : Str} (hw : w ∈ Txt.split x y) : w.length ≤ x.length := by
  have e := TL.split_spl x y (by rw [hy]; simp) (TL.kind_ok hk)
  rw [hy] at e
  obtain ⟨h1, h2, h3⟩ := spl_ok s (TL.tl x) []
  rw [← e] at h3
  obtain ⟨a, b⟩ := h3 (TL.tl w) (List.mem_map.mpr ⟨w, hw, rfl⟩)
  have lx := TL.len_tl x
  have lw := TL.len_tl w
  have a : (TL.tl w).length ≤ 0 + (TL.tl x).length := a
  omega
theorem split_many {x y : Str} {s : Nat} (hy : TL.tl y = [s]) (hk : y.cps.all (· < 256) = true) : (Txt.split x y).length ≤ x.length + 1 := by
  have e := TL.split_spl x y (by rw [hy]; simp) (TL.kind_ok hk)
  rw [hy] at e
  obtain ⟨h1, h2, h3⟩ := spl_ok s (TL.tl x) []
  rw [← e, List.length_map] at h2
  have lx := TL.len_tl x
  omega
theorem tl_blank : TL.tl (" " : Str) = [32] ∧ (" " : Str).cps.all (· < 256) = true ∧ TL.tl ("\n" : Str) = [10] ∧ ("\n" : Str).cps.all (· < 256) = true ∧ ((" " : Str).length == 0) = false ∧ (("\n" : Str).length == 0) = false := by decide +kernel
def runR : Dr → Nat → List Str → Sum Nat Dr
  | dr, _, [] => .inr dr
  | dr, i, row :: rows => match putR dr row with
    | none => .inl i
    | some d => runR d (i + 1) rows
theorem run_at : ∀ {dr : Dr} {i : Nat} {rows : List Str} {row : Str} {rest : List Str}, rows = row :: rest → runR dr i rows = match putR dr row with | none => .inl i | some d => runR d (i + 1) rest := fun e => by subst e; rfl
def wholeV (dr : Dr) : Dv := .tup [numsV dr.head, .tup (dr.disks.map kD), .tup (dr.notes.map ntV)]
def dr0 : Dr := ⟨none, [], []⟩
def readR (text : Str) : Sum Nat Dr := match runR dr0 0 (Txt.split text ("\n" : Str)) with
  | .inl i => .inl i
  | .inr dr => if storeB (wholeV dr) = true then .inr dr else .inl (Txt.split text ("\n" : Str)).length
def NtSz : NtW → Prop
  | .fin ns => ns.length ≤ 10
  | .blk ns b => ns.length ≤ 10 ∧ ∀ x, b = some x → x.length ≤ 200000
structure DrSz (dr : Dr) (i : Nat) : Prop where
  hd : ∀ ns, dr.head = some ns → ns.length ≤ 10
  d1 : dr.disks.length ≤ i
  n1 : dr.notes.length ≤ i
  d2 : ∀ bs, some bs ∈ dr.disks → bs.length ≤ 200000 ∧ ∀ b, some b ∈ bs → b.length ≤ 200000
  n2 : ∀ n ∈ dr.notes, NtSz n
theorem dr0_sz : DrSz dr0 0 := ⟨fun _ h => (by cases h), Nat.le_refl _, Nat.le_refl _, fun _ h => (by cases h), fun _ h => (by cases h)⟩
theorem pairV_len (L : List Nat) : (pairV L).length ≤ L.length + 1 := by
  unfold pairV
  rw [List.length_map, List.length_zip]
  have := nth2_len 0 L
  omega
theorem blkW_len {w : Str} {b : Blk} (h : blkW w = some b) (hl : w.length ≤ 100000) : b.length ≤ 200000 := by
  unfold blkW at h
  split at h
  · cases h
  · cases h
    have := pairV_len (w.cps.toList.map figI)
    rw [List.length_map] at this
    have e : w.cps.toList.length = w.length := by simp [Str.length]
    omega
theorem putR_sz {dr dr' : Dr} {row : Str} {i : Nat} (h : DrSz dr i) (wo : WordsOk (Txt.split row (" " : Str))) (e : putR dr row = some dr') : DrSz dr' (i + 1) := by
  unfold putR at e
  generalize Txt.split row (" " : Str) = ws at wo e
  obtain ⟨w0, wa, wl⟩ := wo
  split at e
  · unfold putH at e
    cases q : numsW (ws.drop 1) 6 with
    | none => rw [q] at e; cases e
    | some ns =>
      rw [q] at e
      have e : (if ws.getD 0 ("" : Str) = ("store" : Str) then some ({ dr with head := some ns } : Dr) else none) = some dr' := e
      split at e
      · cases e
        refine ⟨fun ms hm => ?_, Nat.le_succ_of_le h.d1, Nat.le_succ_of_le h.n1, h.d2, h.n2⟩
        have hm : some ns = some ms := hm
        cases hm
        rw [(nums_len q).1]
        decide
      · cases e
  · split at e
    · unfold putD at e
      split at e
      · cases e
      · split at e
        · cases e
          refine ⟨h.hd, ?_, Nat.le_succ_of_le h.n1, fun bs hb => ?_, h.n2⟩
          · show (dr.disks ++ [none]).length ≤ _
            rw [List.length_append]
            exact Nat.succ_le_succ h.d1
          · rcases List.mem_append.mp hb with q | q
            · exact h.d2 bs q
            · cases List.mem_singleton.mp q
        · split at e
          · cases e
          · cases e
            refine ⟨h.hd, ?_, Nat.le_succ_of_le h.n1, fun bs hb => ?_, h.n2⟩
            · show (dr.disks ++ [_]).length ≤ _
              rw [List.length_append]
              exact Nat.succ_le_succ h.d1
            · rcases List.mem_append.mp hb with q | q
              · exact h.d2 bs q
              · have q := List.mem_singleton.mp q
                cases q
                refine ⟨by rw [List.length_map, List.length_drop]; omega, fun b hb2 => ?_⟩
                obtain ⟨w, hw, e2⟩ := List.mem_map.mp hb2
                exact blkW_len e2 (wa w (List.mem_of_mem_drop hw)).2
    · unfold putN at e
      split at e
      · cases q : numsW (ws.drop 1) 3 with
        | none => rw [q] at e; cases e
        | some ns =>
          rw [q] at e
          cases e
          refine ⟨h.hd, Nat.le_succ_of_le h.d1, ?_, h.d2, fun n hn => ?_⟩
          · show (dr.notes ++ [_]).length ≤ _
            rw [List.length_append]
            exact Nat.succ_le_succ h.n1
          · rcases List.mem_append.mp hn with z | z
            · exact h.n2 n z
            · rw [List.mem_singleton.mp z]
              show ns.length ≤ 10
              rw [(nums_len q).1]
              decide
      · cases q : numsW ((ws.drop 1).take 2) 2 with
        | none => rw [q] at e; cases e
        | some ns =>
          rw [q] at e
          have e : (if ws.getD 0 ("" : Str) ≠ ("note" : Str) ∨ ws.length ≠ 4 ∨ isB (ws.getD 3 ("" : Str)) = false then none else some ({ dr with notes := dr.notes ++ [.blk ns (blkW (ws.getD 3 ("" : Str)))] } : Dr)) = some dr' := e
          split at e
          · cases e
          · rename_i c
            have c4 : ws.length = 4 := Classical.byContradiction fun z => c (.inr (.inl z))
            cases e
            refine ⟨h.hd, Nat.le_succ_of_le h.d1, ?_, h.d2, fun n hn => ?_⟩
            · show (dr.notes ++ [_]).length ≤ _
              rw [List.length_append]
              exact Nat.succ_le_succ h.n1
            · rcases List.mem_append.mp hn with z | z
              · exact h.n2 n z
              · rw [List.mem_singleton.mp z]
                refine ⟨by rw [(nums_len q).1]; decide, fun x hx => blkW_len hx (wa _ (words_in (ws := ws) (i := 3) (by omega))).2⟩
theorem pn_nums (n : Nat) {ns : List Nat} (h : ns.length ≤ 10) : Pn (n + 1) (.tup (ns.map fun n => dn n)) := ⟨by rw [List.length_map]; exact Nat.le_trans h (by decide), fun d hd => by
  obtain ⟨x, _, rfl⟩ := List.mem_map.mp hd
  cases n <;> trivial⟩
theorem pn_oD {o : Option Blk} (h : ∀ x, o = some x → x.length ≤ 200000) (n : Nat) : Pn (n + 1) (oD o) := by
  cases o with
  | none => trivial
  | some b => exact ⟨by rw [List.length_map]; exact Nat.le_trans (h b rfl) (by decide), fun d hd => by
      obtain ⟨x, _, rfl⟩ := List.mem_map.mp hd
      cases n <;> trivial⟩
theorem whole_pn {dr : Dr} {i : Nat} (h : DrSz dr i) (hi : i ≤ 200000) : Pn (1 + 3) (wholeV dr) := by
  have sl : (200000 : Nat) ≤ sizeLine := by decide
  refine ⟨by show 3 ≤ sizeLine; decide, fun d hd => ?_⟩
  have hd : d ∈ [numsV dr.head, .tup (dr.disks.map kD), .tup (dr.notes.map ntV)] := hd
  rcases List.mem_cons.mp hd with rfl | hd
  · cases q : dr.head with
    | none => trivial
    | some ns => exact pn_nums 2 (h.hd ns q)
  rcases List.mem_cons.mp hd with rfl | hd
  · have := h.d1
    refine ⟨by rw [List.length_map]; omega, fun d hd => ?_⟩
    obtain ⟨k, hk, rfl⟩ := List.mem_map.mp hd
    cases k with
    | none => trivial
    | some bs =>
      obtain ⟨a, b⟩ := h.d2 bs hk
      refine ⟨by rw [List.length_map]; omega, fun d hd => ?_⟩
      obtain ⟨o, ho, rfl⟩ := List.mem_map.mp hd
      exact pn_oD (fun x hx => b x (hx ▸ ho)) 0
  rw [List.mem_singleton.mp hd]
  have := h.n1
  refine ⟨by rw [List.length_map]; omega, fun d hd => ?_⟩
  obtain ⟨n, hn, rfl⟩ := List.mem_map.mp hd
  have hz := h.n2 n hn
  cases n with
  | fin ns =>
    have hz : ns.length ≤ 10 := hz
    refine ⟨by rw [List.length_append, List.length_map]; show 1 + ns.length ≤ sizeLine; omega, fun d hd => ?_⟩
    rcases List.mem_append.mp hd with q | q
    · rw [List.mem_singleton.mp q]
      exact lay_words.2.2.1
    · obtain ⟨x, _, rfl⟩ := List.mem_map.mp q
      trivial
  | blk ns b =>
    obtain ⟨z1, z2⟩ := hz
    refine ⟨by rw [List.length_append, List.length_append, List.length_map]; show 1 + ns.length + 1 ≤ sizeLine; omega, fun d hd => ?_⟩
    rcases List.mem_append.mp hd with q | q
    · rcases List.mem_append.mp q with q | q
      · rw [List.mem_singleton.mp q]
        exact lay_words.2.2.2.2.2
      · obtain ⟨x, _, rfl⟩ := List.mem_map.mp q
        trivial
    · rw [List.mem_singleton.mp q]
      exact pn_oD z2 0
end Law
set_option maxHeartbeats 1000000
namespace Law
open PySem L2 HC PyProof.Rows NumText
theorem idx2_add (lo n : Nat) (h : lo ≤ 1) : idx2 lo (n + 2) = lo :: (idx2 lo n).map (· + 2) := by
  unfold idx2
  have e : (n + 2 + 1 - lo) / 2 = (n + 1 - lo) / 2 + 1 := by omega
  rw [e, List.range_succ_eq_map, List.map_cons, List.map_map, List.map_map]
  have q : ∀ k, ((fun k => lo + 2 * k) ∘ Nat.succ) k = ((fun x => x + 2) ∘ fun k => lo + 2 * k) k := fun k => by show lo + 2 * (k + 1) = lo + 2 * k + 2; omega
  rw [List.map_congr_left fun k _ => q k]
  rfl
theorem nth2_two {α : Type} (a c : α) (L : List α) : nth2 0 (a :: c :: L) = a :: nth2 0 L ∧ nth2 1 (a :: c :: L) = c :: nth2 1 L := by
  unfold nth2
  refine ⟨?_, ?_⟩
  · rw [List.length_cons, List.length_cons, idx2_add 0 _ (by decide), List.filterMap_cons, List.filterMap_map]
    rfl
  · rw [List.length_cons, List.length_cons, idx2_add 1 _ (by decide), List.filterMap_cons, List.filterMap_map]
    rfl
theorem pairV_cons (x : Nat) (L : List Nat) : pairV (x / 16 :: x % 16 :: L) = x :: pairV L := by
  unfold pairV
  rw [(nth2_two _ _ _).1, (nth2_two _ _ _).2, List.zip_cons_cons, List.map_cons]
  congr 1
  show 16 * (x / 16) + x % 16 = x
  omega
theorem tl_blkT (b : Blk) : TL.tl (blkT b) = (b.map fun x => [figS.cps.toList.getD (x / 16) 0, figS.cps.toList.getD (x % 16) 0]).flatten := by
  unfold blkT
  rw [TL.join_eq, TL.tl_join, tl_empty, joinL_nil, List.map_map]
  congr 1
theorem figs_back {b : Blk} (hb : ∀ x ∈ b, x < 256) : pairV ((TL.tl (blkT b)).map figI) = b := by
  rw [tl_blkT]
  induction b with
  | nil => rfl
  | cons x b ih =>
    have hx := hb x (List.mem_cons_self ..)
    rw [List.map_cons, List.flatten_cons, List.map_append]
    show pairV (figI (figS.cps.toList.getD (x / 16) 0) :: figI (figS.cps.toList.getD (x % 16) 0) :: _) = _
    rw [(fig_occ (x / 16) (by omega)).2, (fig_occ (x % 16) (by omega)).2]
    refine (pairV_cons x _).trans ?_
    exact congrArg (x :: ·) (ih fun y hy => hb y (List.mem_cons_of_mem _ hy))
theorem isFig_at {k : Nat} (h : k < 16) : isFig (figS.cps.toList.getD k 0) = true := by
  have l16 : figS.cps.toList.length = 16 := by decide +kernel
  refine decide_eq_true ?_
  rw [List.getD_eq_getElem?_getD, List.getElem?_eq_getElem (by omega)]
  exact List.getElem_mem _
theorem fig_ge : ∀ k, k < 16 → 48 ≤ figS.cps.toList.getD k 0 := by decide +kernel
theorem blkT_mem {b : Blk} (hb : ∀ x ∈ b, x < 256) {c : Nat} (hc : c ∈ TL.tl (blkT b)) : isFig c = true ∧ 48 ≤ c := by
  rw [tl_blkT] at hc
  obtain ⟨l, hl, hc⟩ := List.mem_flatten.mp hc
  obtain ⟨x, hx, rfl⟩ := List.mem_map.mp hl
  have := hb x hx
  rcases List.mem_cons.mp hc with rfl | h
  · exact ⟨isFig_at (by omega), fig_ge _ (by omega)⟩
  · rw [List.mem_singleton.mp h]
    exact ⟨isFig_at (by omega), fig_ge _ (by omega)⟩
theorem blkT_len (b : Blk) : (TL.tl (blkT b)).length = 2 * b.length := by
  rw [tl_blkT]
  induction b with
  | nil => rfl
  | cons x b ih =>
    rw [List.map_cons, List.flatten_cons, List.length_append, ih, List.length_cons]
    show 2 + 2 * b.length = 2 * (b.length + 1)
    omega
theorem blkT_not {b : Blk} (hb : ∀ x ∈ b, x < 256) : ¬ blkT b = ("-" : Str) := fun e => by
  have e2 : TL.tl ("-" : Str) = [45] := by decide +kernel
  have : (45 : Nat) ∈ TL.tl (blkT b) := by rw [e, e2]; simp
  have := (blkT_mem hb this).2
  omega
theorem blkW_blkT {b : Blk} (hb : ∀ x ∈ b, x < 256) : blkW (blkT b) = some b := by
  unfold blkW
  rw [if_neg (blkT_not hb)]
  exact congrArg some (figs_back hb)
theorem isB_blkT {b : Blk} (hb : ∀ x ∈ b, x < 256) (h1 : 1 ≤ b.length) : isB (blkT b) = true := by
  have l : (blkT b).length = 2 * b.length := (TL.len_tl _).trans (blkT_len b)
  unfold isB
  rw [decide_eq_true (show 0 < (blkT b).length by omega), decide_eq_true (show (blkT b).length % 2 = 0 by omega), List.all_eq_true.mpr fun c hc => (blkT_mem hb hc).1]
  simp
theorem oT_back {o : Option Blk} (h : ∀ b, o = some b → 1 ≤ b.length ∧ ∀ x ∈ b, x < 256) : isB (oT o) = true ∧ blkW (oT o) = o := by
  cases o with
  | none => exact ⟨by unfold isB oT; rw [decide_eq_true rfl]; rfl, if_pos rfl⟩
  | some b =>
    obtain ⟨h1, h2⟩ := h b rfl
    exact ⟨isB_blkT h2 h1, blkW_blkT h2⟩
def NoWs (w : Str) : Prop := ∀ c ∈ TL.tl w, 33 ≤ c
theorem ws_strI (n : Nat) : NoWs (strI (n : Int)) := fun c hc => by
  have := strI_all n c hc
  omega
theorem ws_words : NoWs ("store" : Str) ∧ NoWs ("disk" : Str) ∧ NoWs ("lost" : Str) ∧ NoWs ("note" : Str) ∧ NoWs ("end" : Str) ∧ NoWs ("-" : Str) := by
  unfold NoWs
  decide +kernel
theorem ws_oT {o : Option Blk} (h : ∀ b, o = some b → 1 ≤ b.length ∧ ∀ x ∈ b, x < 256) : NoWs (oT o) := by
  cases o with
  | none => exact ws_words.2.2.2.2.2
  | some b => exact fun c hc => Nat.le_trans (by decide) (blkT_mem (h b rfl).2 hc).2
theorem split_ws {ws : List Str} (hne : ws ≠ []) (h : ∀ w ∈ ws, NoWs w) : Txt.split (Txt.join (" " : Str) ws) (" " : Str) = ws :=
  TL.split_join tl_blank.1 tl_blank.2.1 hne fun p hp hc => by
    have := h p hp 32 hc
    omega
theorem joinL_mem {S : List Nat} {c : Nat} : ∀ {ps : List (List Nat)}, c ∈ TL.joinL S ps → c ∈ S ∨ ∃ p ∈ ps, c ∈ p
  | [], h => by cases h
  | [p], h => .inr ⟨p, List.mem_singleton.mpr rfl, h⟩
  | p :: q :: r, h => by
    have h : c ∈ p ++ (S ++ TL.joinL S (q :: r)) := h
    rcases List.mem_append.mp h with h | h
    · exact .inr ⟨p, List.mem_cons_self .., h⟩
    rcases List.mem_append.mp h with h | h
    · exact .inl h
    rcases joinL_mem h with h | ⟨p2, h1, h2⟩
    · exact .inl h
    · exact .inr ⟨p2, List.mem_cons_of_mem _ h1, h2⟩
theorem no_line {ws : List Str} (h : ∀ w ∈ ws, NoWs w) : (10 : Nat) ∉ TL.tl (Txt.join (" " : Str) ws) := fun hc => by
  rw [TL.join_eq, TL.tl_join, tl_blank.1] at hc
  rcases joinL_mem hc with q | ⟨p, hp, q⟩
  · exact absurd (List.mem_singleton.mp q) (by decide)
  · obtain ⟨w, hw, rfl⟩ := List.mem_map.mp hp
    have := h w hw 10 q
    omega
theorem nums_back : ∀ {ns : List Nat}, (∀ n ∈ ns, n < 10 ^ 12) → none ∉ (ns.map fun n : Nat => strI (n : Int)).map numW ∧ (ns.map fun n : Nat => strI (n : Int)).filterMap numW = ns
  | [], _ => ⟨fun h => (by cases h), rfl⟩
  | n :: ns, h => by
    obtain ⟨h1, h2⟩ := nums_back fun m hm => h m (List.mem_cons_of_mem _ hm)
    have e := numW_num (h n (List.mem_cons_self ..))
    refine ⟨fun hm => ?_, ?_⟩
    · rw [List.map_cons, List.map_cons, e] at hm
      rcases List.mem_cons.mp hm with q | q
      · cases q
      · exact h1 q
    · rw [List.map_cons, List.filterMap_cons, e, h2]
theorem numsW_back {ns : List Nat} (h : ∀ n ∈ ns, n < 10 ^ 12) {m : Nat} (hm : ns.length = m) : numsW (ns.map fun n : Nat => strI (n : Int)) m = some ns := by
  obtain ⟨h1, h2⟩ := nums_back h
  unfold numsW
  rw [if_pos ⟨by rw [List.length_map]; exact hm, h1⟩, h2]
theorem w_ne : ¬ ("disk" : Str) = ("end" : Str) ∧ ¬ ("note" : Str) = ("end" : Str) ∧ ¬ ("note" : Str) = ("disk" : Str) ∧ ¬ ("note" : Str) = ("lost" : Str) ∧ ¬ ("end" : Str) = ("disk" : Str) ∧ ¬ ("end" : Str) = ("lost" : Str) ∧ ¬ ("disk" : Str) = ("lost" : Str) := by decide +kernel
theorem ws_nums {ns : List Nat} : ∀ w ∈ (ns.map fun n : Nat => strI (n : Int)), NoWs w := fun w hw => by
  obtain ⟨n, _, rfl⟩ := List.mem_map.mp hw
  exact ws_strI n
def ntW : Note → NtW
  | .fin a w m => .fin [a, w, m]
  | .block d r b => .blk [d, r] (some b)
theorem ntV_ntW (n : Note) : ntV (ntW n) = nD n := by
  cases n <;> rfl
theorem head_ws (h : Head) : headT h = Txt.join (" " : Str) (("store" : Str) :: (hdNs h).map fun n : Nat => strI (n : Int)) := rfl
theorem put_head {h : Head} (hb : ∀ n ∈ hdNs h, n < 10 ^ 12) : putR dr0 (headT h) = some ⟨some (hdNs h), [], []⟩ := by
  unfold putR
  rw [if_pos (show dr0.head = none from rfl), head_ws, split_ws (List.cons_ne_nil _ _) (fun w hw => by
    rcases List.mem_cons.mp hw with rfl | q
    · exact ws_words.1
    · exact ws_nums w q)]
  unfold putH
  rw [show (("store" : Str) :: (hdNs h).map fun n : Nat => strI (n : Int)).drop 1 = (hdNs h).map fun n : Nat => strI (n : Int) from rfl, numsW_back hb (m := 6) rfl]
  exact if_pos rfl
def GoodK (k : Disk) : Prop := ∀ bs, k = some bs → 1 ≤ bs.length ∧ ∀ o ∈ bs, ∀ b, o = some b → 1 ≤ b.length ∧ ∀ x ∈ b, x < 256
theorem disk_ws {bs : List (Option Blk)} (h : GoodK (some bs)) : ∀ w ∈ ("disk" : Str) :: bs.map oT, NoWs w := fun w hw => by
  rcases List.mem_cons.mp hw with rfl | q
  · exact ws_words.2.1
  · obtain ⟨o, ho, rfl⟩ := List.mem_map.mp q
    exact ws_oT ((h bs rfl).2 o ho)
theorem lost_split : Txt.split ("lost" : Str) (" " : Str) = [("lost" : Str)] :=
  split_ws (ws := [("lost" : Str)]) (List.cons_ne_nil _ _) fun w hw => by rw [List.mem_singleton.mp hw]; exact ws_words.2.2.1
theorem put_disk {k : Disk} (hk : GoodK k) {ns : List Nat} {ds : List Disk} : putR ⟨some ns, ds, []⟩ (diskT k) = some ⟨some ns, ds ++ [k], []⟩ := by
  unfold putR
  rw [if_neg (fun z => by cases z)]
  cases k with
  | none =>
    rw [show diskT none = ("lost" : Str) from rfl, lost_split, if_pos (.inr rfl)]
    unfold putD
    rw [if_neg (fun z => z rfl), if_pos rfl]
  | some bs =>
    obtain ⟨h1, h2⟩ := hk bs rfl
    rw [show diskT (some bs) = Txt.join (" " : Str) (("disk" : Str) :: bs.map oT) from rfl, split_ws (List.cons_ne_nil _ _) (disk_ws hk), if_pos (.inl rfl)]
    unfold putD
    have all : (bs.map oT).all isB = true := List.all_eq_true.mpr fun w hw => by
      obtain ⟨o, ho, rfl⟩ := List.mem_map.mp hw
      exact (oT_back (h2 o ho)).1
    have back : (bs.map oT).map blkW = bs := by
      rw [List.map_map]
      refine (List.map_congr_left fun o ho => ?_).trans (List.map_id bs)
      exact (oT_back (h2 o ho)).2
    rw [if_neg (fun z => z rfl), if_neg (fun z => w_ne.2.2.2.2.2.2 (List.cons.inj z).1)]
    rw [show (("disk" : Str) :: bs.map oT).drop 1 = bs.map oT from rfl, all, back, if_neg]
    rintro (z | z | z)
    · exact z rfl
    · rw [List.length_cons, List.length_map] at z
      omega
    · cases z
def GoodN : Note → Prop
  | .block d r b => d < 10 ^ 12 ∧ r < 10 ^ 12 ∧ 1 ≤ b.length ∧ ∀ x ∈ b, x < 256
  | .fin a w m => a < 10 ^ 12 ∧ w < 10 ^ 12 ∧ m < 10 ^ 12
theorem note_ws {n : Note} (h : GoodN n) : ∃ ws, noteT n = Txt.join (" " : Str) ws ∧ ws ≠ [] ∧ (∀ w ∈ ws, NoWs w) ∧ ∀ (ns : List Nat) (ds : List Disk) (js : List NtW), (if ws.getD 0 ("" : Str) = ("disk" : Str) ∨ ws.getD 0 ("" : Str) = ("lost" : Str) then putD ⟨some ns, ds, js⟩ ws else putN ⟨some ns, ds, js⟩ ws) = some ⟨some ns, ds, js ++ [ntW n]⟩ := by
  cases n with
  | block d r b =>
    obtain ⟨h1, h2, h3, h4⟩ := h
    refine ⟨[("note" : Str), strI d, strI r, blkT b], rfl, List.cons_ne_nil _ _, fun w hw => ?_, fun ns ds js => ?_⟩
    · rcases List.mem_cons.mp hw with rfl | hw
      · exact ws_words.2.2.2.1
      rcases List.mem_cons.mp hw with rfl | hw
      · exact ws_strI d
      rcases List.mem_cons.mp hw with rfl | hw
      · exact ws_strI r
      rw [List.mem_singleton.mp hw]
      exact fun c hc => Nat.le_trans (by decide) (blkT_mem h4 hc).2
    · rw [if_neg (fun z => z.elim (fun y => w_ne.2.2.1 y) fun y => w_ne.2.2.2.1 y)]
      unfold putN
      rw [if_neg (show ¬ ([("note" : Str), strI d, strI r, blkT b] : List Str).getD 0 ("" : Str) = ("end" : Str) from fun z => w_ne.2.1 z)]
      have e := numsW_back (ns := [d, r]) (m := 2) (fun n hn => by
        rcases List.mem_cons.mp hn with rfl | hn
        · exact h1
        · rw [List.mem_singleton.mp hn]; exact h2) rfl
      rw [show (([("note" : Str), strI d, strI r, blkT b] : List Str).drop 1).take 2 = ([d, r] : List Nat).map fun n : Nat => strI (n : Int) from rfl, e]
      show (if _ then none else some _) = _
      rw [if_neg]
      · show some ({ head := some ns, disks := ds, notes := js ++ [.blk [d, r] (blkW (blkT b))] } : Dr) = _
        rw [blkW_blkT h4]
        rfl
      · rintro (z | z | z)
        · exact z rfl
        · exact z rfl
        · have z : isB (blkT b) = false := z
          rw [isB_blkT h4 h3] at z
          cases z
  | fin a w m =>
    obtain ⟨h1, h2, h3⟩ := h
    refine ⟨[("end" : Str), strI a, strI w, strI m], rfl, List.cons_ne_nil _ _, fun v hw => ?_, fun ns ds js => ?_⟩
    · rcases List.mem_cons.mp hw with rfl | hw
      · exact ws_words.2.2.2.2.1
      exact ws_nums (ns := [a, w, m]) v hw
    · rw [if_neg (fun z => z.elim (fun y => w_ne.2.2.2.2.1 y) fun y => w_ne.2.2.2.2.2.1 y)]
      unfold putN
      rw [if_pos (show ([("end" : Str), strI a, strI w, strI m] : List Str).getD 0 ("" : Str) = ("end" : Str) from rfl)]
      have e := numsW_back (ns := [a, w, m]) (m := 3) (fun n hn => by
        rcases List.mem_cons.mp hn with rfl | hn
        · exact h1
        rcases List.mem_cons.mp hn with rfl | hn
        · exact h2
        · rw [List.mem_singleton.mp hn]; exact h3) rfl
      rw [show ([("end" : Str), strI a, strI w, strI m] : List Str).drop 1 = ([a, w, m] : List Nat).map fun n : Nat => strI (n : Int) from rfl, e]
      rfl
theorem put_note {n : Note} (h : GoodN n) {ns : List Nat} {ds : List Disk} {js : List NtW} : putR ⟨some ns, ds, js⟩ (noteT n) = some ⟨some ns, ds, js ++ [ntW n]⟩ := by
  obtain ⟨ws, e, h1, h2, h3⟩ := note_ws h
  unfold putR
  rw [if_neg (fun z => by cases z), e, split_ws h1 h2]
  exact h3 ns ds js
theorem run_disks : ∀ {ks : List Disk} {ns : List Nat} {ds : List Disk} {i : Nat} {rest : List Str}, (∀ k ∈ ks, GoodK k) → runR ⟨some ns, ds, []⟩ i (ks.map diskT ++ rest) = runR ⟨some ns, ds ++ ks, []⟩ (i + ks.length) rest
  | [], ns, ds, i, rest, _ => by rw [List.append_nil]; rfl
  | k :: ks, ns, ds, i, rest, h => by
    rw [List.map_cons, List.cons_append, run_at rfl, put_disk (h k (List.mem_cons_self ..))]
    show runR _ (i + 1) _ = _
    rw [run_disks fun x hx => h x (List.mem_cons_of_mem _ hx), List.append_assoc, List.length_cons]
    show runR _ (i + 1 + ks.length) rest = runR _ (i + (ks.length + 1)) rest
    rw [show i + 1 + ks.length = i + (ks.length + 1) by omega]
    rfl
theorem run_notes : ∀ {js : List Note} {ns : List Nat} {ds : List Disk} {gs : List NtW} {i : Nat}, (∀ n ∈ js, GoodN n) → runR ⟨some ns, ds, gs⟩ i (js.map noteT) = .inr ⟨some ns, ds, gs ++ js.map ntW⟩
  | [], ns, ds, gs, i, _ => by rw [List.map_nil, List.map_nil, List.append_nil]; rfl
  | n :: js, ns, ds, gs, i, h => by
    rw [List.map_cons, run_at rfl, put_note (h n (List.mem_cons_self ..))]
    show runR _ (i + 1) _ = _
    rw [run_notes fun x hx => h x (List.mem_cons_of_mem _ hx), List.append_assoc]
    rfl
def drS (s : Store) : Dr := ⟨some (hdNs s.head), s.disks, s.journal.map ntW⟩
theorem whole_drS (s : Store) : wholeV (drS s) = s.d := by
  have e : (s.journal.map ntW).map ntV = s.journal.map nD := by
    rw [List.map_map]
    exact List.map_congr_left fun n _ => ntV_ntW n
  show Dv.tup [_, _, .tup ((s.journal.map ntW).map ntV)] = _
  rw [e]
  rfl
theorem rows_split {s : Store} (hd : ∀ k ∈ s.disks, GoodK k) (hn : ∀ n ∈ s.journal, GoodN n) : Txt.split (storeT s) ("\n" : Str) = rowsT s :=
  TL.split_join tl_blank.2.2.1 tl_blank.2.2.2.1 (List.cons_ne_nil _ _) fun r hr => by
    rcases List.mem_cons.mp hr with rfl | hr
    · rw [head_ws]
      exact no_line fun w hw => by
        rcases List.mem_cons.mp hw with rfl | q
        · exact ws_words.1
        · exact ws_nums w q
    rcases List.mem_append.mp hr with hr | hr
    · obtain ⟨k, hk, rfl⟩ := List.mem_map.mp hr
      cases k with
      | none => exact no_line (ws := [("lost" : Str)]) fun w hw => by rw [List.mem_singleton.mp hw]; exact ws_words.2.2.1
      | some bs => exact no_line (disk_ws (hd _ hk))
    · obtain ⟨n, h1, rfl⟩ := List.mem_map.mp hr
      obtain ⟨ws, e, _, h2, _⟩ := note_ws (hn n h1)
      rw [e]
      exact no_line h2
theorem read_own {s : Store} (ok : s.Ok) (hb : ∀ n ∈ hdNs s.head, n < 10 ^ 12) (hd : ∀ k ∈ s.disks, GoodK k) (hn : ∀ n ∈ s.journal, GoodN n) : readR (storeT s) = .inr (drS s) := by
  unfold readR
  have e : runR dr0 0 (rowsT s) = .inr (drS s) := by
    unfold rowsT
    rw [run_at rfl, put_head hb]
    show runR _ _ _ = _
    rw [run_disks hd, run_notes hn]
    rfl
  rw [rows_split hd hn, e]
  show (if storeB (wholeV (drS s)) = true then _ else _) = _
  rw [whole_drS, if_pos (storeB_ok ok)]
end Law
set_option maxHeartbeats 1000000
namespace Law
open PySem L2 HC PyProof.Rows NumText
def ntT : NtW → Str
  | .fin ns => Txt.join (" " : Str) (("end" : Str) :: ns.map fun n : Nat => strI (n : Int))
  | .blk ns b => Txt.join (" " : Str) ((("note" : Str) :: ns.map fun n : Nat => strI (n : Int)) ++ [oT b])
def hdT : Option (List Nat) → List Str
  | none => []
  | some ns => [Txt.join (" " : Str) (("store" : Str) :: ns.map fun n : Nat => strI (n : Int))]
def rowsD (dr : Dr) : List Str := hdT dr.head ++ (dr.disks.map diskT ++ dr.notes.map ntT)
def NtL : NtW → Prop
  | .fin ns => ns.length = 3
  | .blk ns _ => ns.length = 2
structure DrR (dr : Dr) : Prop where
  no : dr.head = none → dr.disks = [] ∧ dr.notes = []
  hd : ∀ ns, dr.head = some ns → ns.length = 6 ∧ ∀ n ∈ ns, n < 10 ^ 12
  nt : ∀ n ∈ dr.notes, NtL n
structure HeadS (h : Head) (many : Nat) : Prop where
  par1 : 1 ≤ h.par
  par2 : h.par ≤ 2
  size1 : 1 ≤ h.size
  size2 : h.size ≤ 16
  rows1 : 1 ≤ h.rows
  rows2 : h.rows ≤ 24
  width1 : h.par + 1 ≤ h.width
  width2 : h.width ≤ 10
  many : (many = h.width ∧ h.moved = 0) ∨ (many = h.width + 1 ∧ many ≤ 10 ∧ h.moved < h.rows)
  sp : h.spares < 10 ^ 12
structure Store.OkS (s : Store) : Prop where
  head : HeadS s.head s.disks.length
  disks : ∀ k ∈ s.disks, DiskOk k s.head.size s.head.rows
  journal : ∀ i n, s.journal[i]? = some n → NoteOk s.head s.disks.length i (decide (i + 1 = s.journal.length)) n
theorem Store.Ok.s {s : Store} (h : s.Ok) : s.OkS := by
  obtain ⟨⟨a1, a2, a3, a4, a5, a6, a7, a8, a9, a10⟩, b, c⟩ := h
  exact ⟨⟨a1, a2, a3, a4, a5, a6, a7, a8, a9, Nat.lt_of_le_of_lt a10 (by decide)⟩, b, c⟩
theorem widthsB_inv {w m par rows many : Nat} (h : widthsB (dn w) (dn m) par rows many = true) : WidthsOk w m par rows many := by
  unfold widthsB at h
  simp only [dn, Bool.and_eq_true, decide_eq_true_eq] at h
  obtain ⟨⟨h1, h2⟩, h3⟩ := h
  refine ⟨by omega, by omega, ?_⟩
  split at h3
  · have := of_decide_eq_true h3
    left
    omega
  · simp only [Bool.and_eq_true, decide_eq_true_eq] at h3
    right
    omega
theorem headB_inv {a b c w m f many : Nat} (h : headB (.tup [dn a, dn b, dn c, dn w, dn m, dn f]) many = true) (hf : f < 10 ^ 12) : HeadS ⟨a, b, c, w, m, f⟩ many := by
  have e : headB (.tup [dn a, dn b, dn c, dn w, dn m, dn f]) many = (betwB (dn a) 1 2 && (betwB (dn b) 1 16 && (betwB (dn c) 1 24 && (natB (dn f) && widthsB (dn w) (dn m) a c many)))) := rfl
  rw [e] at h
  simp only [Bool.and_eq_true] at h
  obtain ⟨h1, h2, h3, _, h4⟩ := h
  simp only [betwB, dn, Bool.and_eq_true, decide_eq_true_eq] at h1 h2 h3
  obtain ⟨w1, w2, w3⟩ := widthsB_inv h4
  exact ⟨by show 1 ≤ a; omega, by show a ≤ 2; omega, by show 1 ≤ b; omega, by show b ≤ 16; omega, by show 1 ≤ c; omega, by show c ≤ 24; omega, w1, w2, w3, hf⟩
theorem len_num12 {n : Nat} (h : n < 10 ^ 12) : (strI (n : Int)).length ≤ 12 := by
  have e : (strI (n : Int)).cps.toList.length = (strI (n : Int)).length := by simp [Str.length]
  rw [← e, strI_cps, List.length_map]
  exact digits10_le (by decide) h
theorem many_leS {s : Store} (ok : s.OkS) : s.disks.length ≤ 10 := by
  have := ok.head.width2
  rcases ok.head.many with q | q <;> omega
theorem nt_okS {s : Store} (ok : s.OkS) (hl : s.journal.length ≤ 100000) : ∀ n ∈ s.journal, NtOk n := fun n hn => by
  obtain ⟨i, hi⟩ := List.getElem?_of_mem hn
  have il := (List.getElem?_eq_some_iff.mp hi).1
  have j := ok.journal i n hi
  have z2 := ok.head.size2
  have r2 := ok.head.rows2
  have mo := many_leS ok
  cases n with
  | block d r b =>
    obtain ⟨j1, j2, j3, j4⟩ := j
    exact ⟨by omega, by omega, by rw [j3]; exact z2, j4⟩
  | fin a w m =>
    obtain ⟨j1, j2, j3⟩ := j
    unfold WidthsOk at j3
    exact ⟨by omega, by omega, by omega⟩
end Law
set_option maxHeartbeats 1000000
namespace Law
open PySem L2 HC PyProof.Rows NumText
theorem cutA_to (xs : List Dv) (k : Nat) : cutA xs none (some (k : Int)) = xs.take k := by
  unfold cutA
  rw [HT.sIx_none, HT.sIx_nat, List.drop_zero, Nat.sub_zero, List.take_eq_take_iff]
  omega
theorem cutA_from (xs : List Dv) (k : Nat) : cutA xs (some (k : Int)) none = xs.drop k := by
  unfold cutA
  rw [HT.sIx_none, HT.sIx_nat]
  by_cases h : k ≤ xs.length
  · rw [Nat.min_eq_left h, List.take_of_length_le (by rw [List.length_drop]; omega)]
  · rw [Nat.min_eq_right (by omega), List.drop_eq_nil_of_le (Nat.le_refl _), List.drop_eq_nil_of_le (by omega), List.take_nil]
def fw (row : Str) : Str := (Txt.split row (" " : Str)).getD 0 ("" : Str)
def NoLn (r : Str) : Prop := (10 : Nat) ∉ TL.tl r
theorem put_none {dr : Dr} {row : Str} (h : dr.head = none) (w : fw row ≠ ("store" : Str)) : putR dr row = none := by
  unfold putR
  rw [if_pos h]
  unfold putH
  cases numsW ((Txt.split row (" " : Str)).drop 1) 6 with
  | none => rfl
  | some ns => exact if_neg w
theorem put_other {dr : Dr} {row : Str} (h : dr.head ≠ none) (w1 : fw row ≠ ("disk" : Str)) (w2 : fw row ≠ ("lost" : Str)) (w3 : fw row ≠ ("note" : Str)) (w4 : fw row ≠ ("end" : Str)) : putR dr row = none := by
  unfold fw at w1 w2 w3 w4
  unfold putR
  rw [if_neg h, if_neg (fun z => z.elim w1 w2)]
  unfold putN
  rw [if_neg w4]
  cases numsW (((Txt.split row (" " : Str)).drop 1).take 2) 2 with
  | none => rfl
  | some ns => exact if_pos (.inl w3)
theorem read_rows {rows : List Str} (h0 : rows ≠ []) (h : ∀ r ∈ rows, NoLn r) : readR (Txt.join ("\n" : Str) rows) = match runR dr0 0 rows with
    | .inl i => .inl i
    | .inr dr => if storeB (wholeV dr) = true then .inr dr else .inl rows.length := by
  unfold readR
  rw [TL.split_join tl_blank.2.2.1 tl_blank.2.2.2.1 h0 h]
  all_goals (cases runR dr0 0 rows <;> rfl)
structure GoodS (s : Store) : Prop where
  ok : s.Ok
  jl : s.journal.length ≤ 20
  hb : ∀ n ∈ hdNs s.head, n < 10 ^ 12
  hd : ∀ k ∈ s.disks, GoodK k
  hn : ∀ n ∈ s.journal, GoodN n
theorem goodS {s : Store} (ok : s.Ok) (jl : s.journal.length ≤ 20) : GoodS s := by
  refine ⟨ok, jl, fun n hn => Nat.lt_trans (hd_ok ok.head n hn) (by decide), fun k hk bs e => ?_, fun n hn => ?_⟩
  · subst e
    obtain ⟨a, b⟩ := ok.disks _ hk bs rfl
    have r1 := ok.head.rows1
    have z1 := ok.head.size1
    refine ⟨by omega, fun o ho x hx => ?_⟩
    have := b o ho x hx
    exact ⟨by have := this.1; omega, this.2⟩
  · have h := nt_okS ok.s (by omega) n hn
    obtain ⟨i, hi, e⟩ := List.getElem_of_mem hn
    have nk := ok.journal i n (by rw [List.getElem?_eq_getElem hi, e])
    have z1 := ok.head.size1
    cases n with
    | fin a w m =>
      obtain ⟨a1, a2, a3⟩ := h
      exact ⟨Nat.lt_trans a1 (by decide), Nat.lt_trans a2 (by decide), Nat.lt_trans a3 (by decide)⟩
    | block d r b =>
      obtain ⟨a1, a2, _, a4⟩ := h
      have bl : b.length = s.head.size := nk.2.2.1
      exact ⟨Nat.lt_trans a1 (by decide), Nat.lt_trans a2 (by decide), by omega, a4⟩
theorem rows_len (s : Store) : (rowsT s).length = s.disks.length + s.journal.length + 1 := by unfold rowsT; simp
structure RowOk (r : Str) : Prop where
  ln : NoLn r
  asc : PySem.W.KSb.Asc r
  len : r.length ≤ 900
theorem GoodS.rows {s : Store} (g : GoodS s) : ∀ r ∈ rowsT s, RowOk r := fun r hr => by
  unfold rowsT at hr
  rcases List.mem_cons.mp hr with rfl | hr
  · refine ⟨?_, asc_head _, Nat.le_trans (join_le _ _) (size_head g.ok.head)⟩
    rw [head_ws]
    exact no_line fun w hw => by
      rcases List.mem_cons.mp hw with rfl | q
      · exact ws_words.1
      · exact ws_nums w q
  rcases List.mem_append.mp hr with hr | hr
  · obtain ⟨k, hk, rfl⟩ := List.mem_map.mp hr
    refine ⟨?_, asc_disk _, len_disk g.ok hk⟩
    cases k with
    | none => exact no_line (ws := [("lost" : Str)]) fun w hw => by rw [List.mem_singleton.mp hw]; exact ws_words.2.2.1
    | some bs => exact no_line (disk_ws (g.hd _ hk))
  · obtain ⟨n, h1, rfl⟩ := List.mem_map.mp hr
    refine ⟨?_, asc_note _, len_note (nt_okS g.ok.s (by have := g.jl; omega) n h1)⟩
    obtain ⟨ws, e, _, h2, _⟩ := note_ws (g.hn n h1)
    rw [e]
    exact no_line h2
theorem run_notesR : ∀ {js : List Note} {ns : List Nat} {ds : List Disk} {gs : List NtW} {i : Nat} {rest : List Str}, (∀ n ∈ js, GoodN n) → runR ⟨some ns, ds, gs⟩ i (js.map noteT ++ rest) = runR ⟨some ns, ds, gs ++ js.map ntW⟩ (i + js.length) rest
  | [], ns, ds, gs, i, rest, _ => by rw [List.map_nil, List.map_nil, List.append_nil]; rfl
  | n :: js, ns, ds, gs, i, rest, h => by
    rw [List.map_cons, List.cons_append, run_at rfl, put_note (h n (List.mem_cons_self ..))]
    show runR _ (i + 1) _ = _
    rw [run_notesR fun x hx => h x (List.mem_cons_of_mem _ hx), List.append_assoc, List.length_cons, show i + 1 + js.length = i + (js.length + 1) by omega]
    rfl
theorem GoodS.pre {s : Store} (g : GoodS s) {n : Nat} (h1 : 1 ≤ n) (h2 : n ≤ (rowsT s).length) : ∃ dr : Dr, (∀ rest, runR dr0 0 ((rowsT s).take n ++ rest) = runR dr n rest) ∧ dr.head = some (hdNs s.head) ∧ (n ≤ 1 + s.disks.length → dr.notes = []) ∧ (1 + s.disks.length < n → dr.notes ≠ []) := by
  obtain ⟨m, rfl⟩ : ∃ m, n = m + 1 := ⟨n - 1, by omega⟩
  rw [rows_len] at h2
  have hh := put_head g.hb
  by_cases hm : m ≤ s.disks.length
  · refine ⟨⟨some (hdNs s.head), s.disks.take m, []⟩, fun rest => ?_, rfl, fun _ => rfl, fun z => by omega⟩
    unfold rowsT
    rw [List.take_succ_cons, List.cons_append, run_at rfl, hh]
    show runR _ 1 _ = _
    rw [List.take_append_of_le_length (by rw [List.length_map]; exact hm), ← List.map_take, run_disks fun k hk => g.hd k (List.mem_of_mem_take hk), List.length_take, Nat.min_eq_left hm, Nat.add_comm 1 m]
    rfl
  · refine ⟨⟨some (hdNs s.head), s.disks, (s.journal.take (m - s.disks.length)).map ntW⟩, fun rest => ?_, rfl, fun z => by omega, fun _ z => ?_⟩
    · unfold rowsT
      rw [List.take_succ_cons, List.cons_append, run_at rfl, hh]
      show runR _ 1 _ = _
      rw [List.take_append, List.take_of_length_le (by rw [List.length_map]; omega), List.append_assoc, run_disks g.hd, List.length_map, ← List.map_take, run_notesR fun n hn => g.hn n (List.mem_of_mem_take hn), List.length_take, Nat.min_eq_left (by omega)]
      rw [show 1 + s.disks.length + (m - s.disks.length) = m + 1 by omega]
      rfl
    · have z := congrArg List.length z
      rw [List.length_map, List.length_take] at z
      have z : min (m - s.disks.length) s.journal.length = 0 := z
      omega
theorem read_bad {rows : List Str} {i : Nat} (h0 : rows ≠ []) (h : ∀ r ∈ rows, NoLn r) (e : runR dr0 0 rows = .inl i) : readR (Txt.join ("\n" : Str) rows) = .inl i := by
  rw [read_rows h0 h, e]
theorem words_ne : ("store" : Str) ≠ ("disk" : Str) ∧ ("store" : Str) ≠ ("lost" : Str) ∧ ("store" : Str) ≠ ("note" : Str) ∧ ("store" : Str) ≠ ("end" : Str) ∧ ("" : Str) ≠ ("disk" : Str) ∧ ("" : Str) ≠ ("lost" : Str) ∧ ("" : Str) ≠ ("note" : Str) ∧ ("" : Str) ≠ ("end" : Str) ∧ ("" : Str) ≠ ("store" : Str) := by decide +kernel
theorem fw_empty : fw ("" : Str) = ("" : Str) := by decide +kernel
structure CaseR (made : List Str) (due : Dv) : Prop where
  ne : made ≠ []
  ok : ∀ r ∈ made, RowOk r
  many : made.length ≤ 40
  due : (∃ i : Nat, due = dn i ∧ readR (Txt.join ("\n" : Str) made) = .inl i) ∨ (due = .non ∧ readR (Txt.join ("\n" : Str) made) = .inl made.length)
theorem row_const : RowOk ("lost" : Str) ∧ RowOk ("disk 00" : Str) ∧ RowOk ("disk -" : Str) ∧ RowOk ("note 0 0 -" : Str) ∧ RowOk ("end 0 0 0" : Str) ∧ RowOk ("" : Str) := by
  refine ⟨⟨?_, PySem.W.KSb.asc_of (by decide +kernel), by decide +kernel⟩, ⟨?_, PySem.W.KSb.asc_of (by decide +kernel), by decide +kernel⟩, ⟨?_, PySem.W.KSb.asc_of (by decide +kernel), by decide +kernel⟩, ⟨?_, PySem.W.KSb.asc_of (by decide +kernel), by decide +kernel⟩, ⟨?_, PySem.W.KSb.asc_of (by decide +kernel), by decide +kernel⟩, ⟨?_, PySem.W.KSb.asc_of (by decide +kernel), by decide +kernel⟩⟩
  all_goals (unfold NoLn; decide +kernel)
theorem numsW_of {ws : List Str} {ns : List Nat} {m : Nat} (h : ws.map numW = ns.map some) (l : ws.length = m) : numsW ws m = some ns := by
  unfold numsW
  rw [if_pos ⟨l, by rw [h]; simp⟩]
  have : ws.filterMap numW = (ws.map numW).filterMap id := by rw [List.filterMap_map]; rfl
  rw [this, h, List.filterMap_map]
  simp
theorem put_noteW {row : Str} {n : List Nat} {w1 w2 w3 : Str} (e : Txt.split row (" " : Str) = [("note" : Str), w1, w2, w3]) (h : [w1, w2].map numW = n.map some) (hb : isB w3 = true) (ns : List Nat) (ds : List Disk) (js : List NtW) : putR ⟨some ns, ds, js⟩ row = some ⟨some ns, ds, js ++ [.blk n (blkW w3)]⟩ := by
  unfold putR
  rw [if_neg (fun z => by cases z), e, if_neg (fun z => z.elim (fun y => w_ne.2.2.1 y) fun y => w_ne.2.2.2.1 y)]
  unfold putN
  rw [if_neg (show ¬ ([("note" : Str), w1, w2, w3] : List Str).getD 0 ("" : Str) = ("end" : Str) from fun z => w_ne.2.1 z)]
  rw [show (([("note" : Str), w1, w2, w3] : List Str).drop 1).take 2 = [w1, w2] from rfl, numsW_of (m := 2) h rfl]
  show (if _ then none else some _) = _
  rw [if_neg]
  · rfl
  · rintro (z | z | z)
    · exact z rfl
    · exact z rfl
    · have z : isB w3 = false := z
      rw [hb] at z
      cases z
theorem put_endW {row : Str} {n : List Nat} {w1 w2 w3 : Str} (e : Txt.split row (" " : Str) = [("end" : Str), w1, w2, w3]) (h : [w1, w2, w3].map numW = n.map some) (ns : List Nat) (ds : List Disk) (js : List NtW) : putR ⟨some ns, ds, js⟩ row = some ⟨some ns, ds, js ++ [.fin n]⟩ := by
  unfold putR
  rw [if_neg (fun z => by cases z), e, if_neg (fun z => z.elim (fun y => w_ne.2.2.2.2.1 y) fun y => w_ne.2.2.2.2.2.1 y)]
  unfold putN
  rw [if_pos (show ([("end" : Str), w1, w2, w3] : List Str).getD 0 ("" : Str) = ("end" : Str) from rfl)]
  rw [show ([("end" : Str), w1, w2, w3] : List Str).drop 1 = [w1, w2, w3] from rfl, numsW_of (m := 3) h rfl]
theorem put_store {ws : List Str} {ns : List Nat} (h : ∀ w ∈ ws, NoWs w) (e : ws.map numW = ns.map some) (l : ws.length = 6) : putR dr0 (Txt.join (" " : Str) (("store" : Str) :: ws)) = some ⟨some ns, [], []⟩ := by
  unfold putR
  rw [if_pos (show dr0.head = none from rfl), split_ws (List.cons_ne_nil _ _) (fun w hw => by
    rcases List.mem_cons.mp hw with rfl | q
    · exact ws_words.1
    · exact h w q)]
  unfold putH
  rw [show (("store" : Str) :: ws).drop 1 = ws from rfl, numsW_of e l]
  exact if_pos rfl
theorem run_step {dr d : Dr} {row : Str} {rest : List Str} {i : Nat} (h : putR dr row = some d) : runR dr i (row :: rest) = runR d (i + 1) rest := by
  rw [run_at rfl, h]
def stN (h : Head) (ks : List Disk) (bs : List Blk) : Store := ⟨h, ks, bs.map (fun b => Note.block 0 0 b) ++ [.fin bs.length ks.length 0]⟩
theorem stN_ok {h : Head} {ks : List Disk} {bs : List Blk} (hh : h.Ok ks.length) (hk : ∀ k ∈ ks, DiskOk k h.size h.rows) (hb : ∀ b ∈ bs, BlkOk' b h.size) : (stN h ks bs).Ok := by
  have w1 := hh.width1
  have w2 := hh.width2
  have r1 := hh.rows1
  have wm := hh.many
  refine ⟨hh, hk, fun i n hi => ?_⟩
  have hi : (bs.map (fun b => Note.block 0 0 b) ++ [Note.fin bs.length ks.length 0])[i]? = some n := hi
  by_cases il : i < bs.length
  · rw [List.getElem?_append_left (by rw [List.length_map]; exact il), List.getElem?_map] at hi
    obtain ⟨b, hx, rfl⟩ := Option.map_eq_some_iff.mp hi
    exact ⟨by show 0 < ks.length; omega, r1, hb b (List.mem_of_getElem? hx)⟩
  · rw [List.getElem?_append_right (by rw [List.length_map]; omega), List.length_map] at hi
    have i0 : i = bs.length := by
      have := (List.getElem?_eq_some_iff.mp hi).1
      have this : i - bs.length < 1 := this
      omega
    subst i0
    rw [Nat.sub_self] at hi
    cases hi
    refine ⟨decide_eq_true ?_, rfl, by show h.par + 1 ≤ ks.length; rcases wm with z | z <;> omega, by show ks.length ≤ 10; rcases wm with z | z <;> omega, .inl ⟨rfl, rfl⟩⟩
    show bs.length + 1 = (bs.map (fun b => Note.block 0 0 b) ++ [Note.fin bs.length ks.length 0]).length
    rw [List.length_append, List.length_map]
    rfl
theorem stN_j (h : Head) (ks : List Disk) (bs : List Blk) : (stN h ks bs).journal.length = bs.length + 1 := by
  show (bs.map (fun b => Note.block 0 0 b) ++ [Note.fin bs.length ks.length 0]).length = _
  rw [List.length_append, List.length_map]
  rfl
theorem stN_d (h : Head) (ks : List Disk) (bs : List Blk) {many : Nat} (e : ks.length = many) : (stN h ks bs).d = .tup [h.d, .tup (ks.map kD), .tup ((bs.map fun b => Note.block 0 0 b).map nD ++ [.tup [.str ("end" : Str), .int (((bs.map fun b => Note.block 0 0 b).map nD).length : Nat), dn many, .int 0]])] := by
  show Dv.tup [h.d, .tup (ks.map kD), .tup ((bs.map (fun b => Note.block 0 0 b) ++ [Note.fin bs.length ks.length 0]).map nD)] = _
  rw [List.map_append, List.length_map, List.length_map, e]
  rfl
theorem CaseR.size {made : List Str} {due : Dv} (c : CaseR made due) : (made.map (·.length)).sum + made.length * ("\n" : Str).length ≤ 40000 ∧ (Txt.join ("\n" : Str) made).length ≤ 50000 ∧ PySem.W.KSb.Asc (Txt.join ("\n" : Str) made) := by
  have h2 := sum_le (ys := made) (B := 900) fun y hy => (c.ok y hy).len
  have h3 : ("\n" : Str).length = 1 := by decide
  have m := c.many
  have j := join_le ("\n" : Str) made
  rw [h3] at j ⊢
  exact ⟨by omega, by omega, asc_join' (PySem.W.KSb.asc_of (by decide +kernel)) fun y hy => (c.ok y hy).asc⟩
end Law
set_option maxHeartbeats 1000000
namespace Law
open PySem L2 HC PyProof.Rows NumText
def BlkG (o : Option Blk) : Prop := ∀ b, o = some b → 1 ≤ b.length ∧ b.length ≤ 17 ∧ ∀ x ∈ b, x < 256
def NtG : NtW → Prop
  | .fin ns => ns.length = 3 ∧ ∀ n ∈ ns, n < 10 ^ 12
  | .blk ns b => ns.length = 2 ∧ (∀ n ∈ ns, n < 10 ^ 12) ∧ BlkG b
def DskG (k : Disk) : Prop := ∀ bs, k = some bs → 1 ≤ bs.length ∧ bs.length ≤ 25 ∧ ∀ o ∈ bs, BlkG o
structure DrG (dr : Dr) (N : List Nat) : Prop where
  hd : dr.head = some N
  n6 : N.length = 6
  nb : ∀ n ∈ N, n < 10 ^ 12
  dk : ∀ k ∈ dr.disks, DskG k
  nt : ∀ n ∈ dr.notes, NtG n
  dl : dr.disks.length ≤ 20
  nl : dr.notes.length ≤ 12
theorem BlkG.back {o : Option Blk} (h : BlkG o) : isB (oT o) = true ∧ blkW (oT o) = o := oT_back fun b e => ⟨(h b e).1, (h b e).2.2⟩
theorem BlkG.ws {o : Option Blk} (h : BlkG o) : NoWs (oT o) := ws_oT fun b e => ⟨(h b e).1, (h b e).2.2⟩
theorem BlkG.len {o : Option Blk} (h : BlkG o) : (oT o).length ≤ 34 := by
  cases o with
  | none => show ("-" : Str).length ≤ 34; decide
  | some b =>
    have h1 := len_blkT b
    have h2 := (h b rfl).2.1
    exact Nat.le_trans h1 (by omega)
theorem DskG.good {k : Disk} (h : DskG k) : GoodK k := fun bs e => ⟨(h bs e).1, fun o ho b e2 => ⟨((h bs e).2.2 o ho b e2).1, ((h bs e).2.2 o ho b e2).2.2⟩⟩
def ntWs : NtW → List Str
  | .fin ns => ("end" : Str) :: ns.map fun n : Nat => strI (n : Int)
  | .blk ns b => (("note" : Str) :: ns.map fun n : Nat => strI (n : Int)) ++ [oT b]
theorem ntT_ws (n : NtW) : ntT n = Txt.join (" " : Str) (ntWs n) := by cases n <;> rfl
theorem ntWs_ne (n : NtW) : ntWs n ≠ [] := by
  cases n with
  | fin ns => exact List.cons_ne_nil _ _
  | blk ns b => exact List.cons_ne_nil _ _
theorem NtG.ws {n : NtW} (h : NtG n) : ∀ w ∈ ntWs n, NoWs w := fun w hw => by
  cases n with
  | fin ns =>
    rcases List.mem_cons.mp hw with rfl | q
    · exact ws_words.2.2.2.2.1
    · exact ws_nums w q
  | blk ns b =>
    rcases List.mem_append.mp hw with q | q
    · rcases List.mem_cons.mp q with rfl | q
      · exact ws_words.2.2.2.1
      · exact ws_nums w q
    · rw [List.mem_singleton.mp q]
      exact h.2.2.ws
theorem nums_some {ns : List Nat} (h : ∀ n ∈ ns, n < 10 ^ 12) : (ns.map fun n : Nat => strI (n : Int)).map numW = ns.map some := by
  rw [List.map_map]
  exact List.map_congr_left fun n hn => numW_num (h n hn)
theorem put_nt {n : NtW} (h : NtG n) (ns : List Nat) (ds : List Disk) (js : List NtW) : putR ⟨some ns, ds, js⟩ (ntT n) = some ⟨some ns, ds, js ++ [n]⟩ := by
  have e : Txt.split (ntT n) (" " : Str) = ntWs n := by rw [ntT_ws, split_ws (ntWs_ne n) h.ws]
  cases n with
  | fin m =>
    obtain ⟨l, b⟩ := h
    obtain ⟨x, y, z, rfl⟩ : ∃ x y z, m = [x, y, z] := by
      match m, l with
      | [x, y, z], _ => exact ⟨_, _, _, rfl⟩
    exact put_endW e (nums_some b) ns ds js
  | blk m o =>
    obtain ⟨l, b, g⟩ := h
    obtain ⟨x, y, rfl⟩ : ∃ x y, m = [x, y] := by
      match m, l with
      | [x, y], _ => exact ⟨_, _, rfl⟩
    have := put_noteW e (nums_some b) g.back.1 ns ds js
    rw [g.back.2] at this
    exact this
theorem run_nts : ∀ {js : List NtW} {ns : List Nat} {ds : List Disk} {gs : List NtW} {i : Nat}, (∀ n ∈ js, NtG n) → runR ⟨some ns, ds, gs⟩ i (js.map ntT) = .inr ⟨some ns, ds, gs ++ js⟩
  | [], ns, ds, gs, i, _ => by rw [List.map_nil, List.append_nil]; rfl
  | n :: js, ns, ds, gs, i, h => by
    rw [List.map_cons, run_step (put_nt (h n (List.mem_cons_self ..)) ns ds gs), run_nts fun x hx => h x (List.mem_cons_of_mem _ hx), List.append_assoc]
    rfl
theorem DrG.rowsE {dr : Dr} {N : List Nat} (g : DrG dr N) : rowsD dr = Txt.join (" " : Str) (("store" : Str) :: N.map fun n : Nat => strI (n : Int)) :: (dr.disks.map diskT ++ dr.notes.map ntT) := by
  unfold rowsD
  rw [g.hd]
  rfl
theorem DrG.run {dr : Dr} {N : List Nat} (g : DrG dr N) : runR dr0 0 (rowsD dr) = .inr dr := by
  rw [g.rowsE, run_step (put_store (ns := N) ws_nums (nums_some g.nb) (by rw [List.length_map]; exact g.n6)), run_disks fun k hk => (g.dk k hk).good, run_nts g.nt]
  have hd := g.hd
  cases dr
  simp only at hd
  rw [hd]
  rfl
structure RowL (r : Str) : Prop where
  ln : NoLn r
  asc : PySem.W.KSb.Asc r
  len : r.length ≤ 1000
theorem row_ws {ws : List Str} (h : ∀ w ∈ ws, NoWs w) (a : ∀ w ∈ ws, PySem.W.KSb.Asc w) (l : ∀ w ∈ ws, w.length ≤ 34) (m : ws.length ≤ 26) : RowL (Txt.join (" " : Str) ws) := by
  refine ⟨no_line h, asc_join' asc_sp a, ?_⟩
  have j := join_le (" " : Str) ws
  have s := sum_le l
  have h4 : (" " : Str).length = 1 := by decide
  rw [h4] at j
  have : ws.length * 34 ≤ 26 * 34 := Nat.mul_le_mul_right _ m
  omega
theorem asc_strI (n : Nat) : PySem.W.KSb.Asc (strI (n : Int)) := PySem.W.KSb.asc_num _
theorem asc_words : PySem.W.KSb.Asc ("store" : Str) ∧ PySem.W.KSb.Asc ("disk" : Str) ∧ PySem.W.KSb.Asc ("note" : Str) ∧ PySem.W.KSb.Asc ("end" : Str) := ⟨PySem.W.KSb.asc_of (by decide +kernel), PySem.W.KSb.asc_of (by decide +kernel), PySem.W.KSb.asc_of (by decide +kernel), PySem.W.KSb.asc_of (by decide +kernel)⟩
theorem len_words : ("store" : Str).length ≤ 34 ∧ ("disk" : Str).length ≤ 34 ∧ ("note" : Str).length ≤ 34 ∧ ("end" : Str).length ≤ 34 := by decide +kernel
theorem row_nums {N : List Nat} (b : ∀ n ∈ N, n < 10 ^ 12) {w : Str} (hw : w ∈ N.map fun n : Nat => strI (n : Int)) : PySem.W.KSb.Asc w ∧ w.length ≤ 34 := by
  obtain ⟨n, hn, rfl⟩ := List.mem_map.mp hw
  exact ⟨asc_strI n, Nat.le_trans (len_num12 (b n hn)) (by decide)⟩
theorem row_head {N : List Nat} (n6 : N.length = 6) (b : ∀ n ∈ N, n < 10 ^ 12) : RowL (Txt.join (" " : Str) (("store" : Str) :: N.map fun n : Nat => strI (n : Int))) := by
  refine row_ws (fun w hw => ?_) (fun w hw => ?_) (fun w hw => ?_) (by rw [List.length_cons, List.length_map, n6]; decide)
  all_goals rcases List.mem_cons.mp hw with rfl | q
  · exact ws_words.1
  · exact ws_nums w q
  · exact asc_words.1
  · exact (row_nums b q).1
  · exact len_words.1
  · exact (row_nums b q).2
theorem row_disk {k : Disk} (h : DskG k) : RowL (diskT k) := by
  cases k with
  | none => exact ⟨row_const.1.ln, row_const.1.asc, Nat.le_trans row_const.1.len (by decide)⟩
  | some bs =>
    obtain ⟨_, l, g⟩ := h bs rfl
    refine row_ws (ws := ("disk" : Str) :: bs.map oT) (fun w hw => ?_) (fun w hw => ?_) (fun w hw => ?_) (by rw [List.length_cons, List.length_map]; omega)
    all_goals rcases List.mem_cons.mp hw with rfl | q
    · exact ws_words.2.1
    · obtain ⟨o, ho, rfl⟩ := List.mem_map.mp q
      exact (g o ho).ws
    · exact asc_words.2.1
    · obtain ⟨o, ho, rfl⟩ := List.mem_map.mp q
      exact asc_oT o
    · exact len_words.2.1
    · obtain ⟨o, ho, rfl⟩ := List.mem_map.mp q
      exact (g o ho).len
theorem row_nt {n : NtW} (h : NtG n) : RowL (ntT n) := by
  rw [ntT_ws]
  cases n with
  | fin ns =>
    refine row_ws h.ws (fun w hw => ?_) (fun w hw => ?_) (by show (_ :: _).length ≤ 26; rw [List.length_cons, List.length_map, h.1]; decide)
    all_goals rcases List.mem_cons.mp hw with rfl | q
    · exact asc_words.2.2.2
    · exact (row_nums h.2 q).1
    · exact len_words.2.2.2
    · exact (row_nums h.2 q).2
  | blk ns b =>
    refine row_ws h.ws (fun w hw => ?_) (fun w hw => ?_) (by show ((("note" : Str) :: ns.map fun n : Nat => strI (n : Int)) ++ [oT b]).length ≤ 26; rw [List.length_append, List.length_cons, List.length_map, h.1]; show 2 + 1 + 1 ≤ 26; decide)
    all_goals rcases List.mem_append.mp hw with q | q
    · rcases List.mem_cons.mp q with rfl | q
      · exact asc_words.2.2.1
      · exact (row_nums h.2.1 q).1
    · rw [List.mem_singleton.mp q]
      exact asc_oT b
    · rcases List.mem_cons.mp q with rfl | q
      · exact len_words.2.2.1
      · exact (row_nums h.2.1 q).2
    · rw [List.mem_singleton.mp q]
      exact h.2.2.len
theorem DrG.rows {dr : Dr} {N : List Nat} (g : DrG dr N) : (∀ r ∈ rowsD dr, RowL r) ∧ (rowsD dr).length ≤ 33 ∧ rowsD dr ≠ [] := by
  rw [g.rowsE]
  refine ⟨fun r hr => ?_, ?_, List.cons_ne_nil _ _⟩
  · rcases List.mem_cons.mp hr with rfl | hr
    · exact row_head g.n6 g.nb
    rcases List.mem_append.mp hr with hr | hr
    · obtain ⟨k, hk, rfl⟩ := List.mem_map.mp hr
      exact row_disk (g.dk k hk)
    · obtain ⟨n, hn, rfl⟩ := List.mem_map.mp hr
      exact row_nt (g.nt n hn)
  · have := g.dl
    have := g.nl
    rw [List.length_cons, List.length_append, List.length_map, List.length_map]
    omega
structure SpoilR (made : List Str) : Prop where
  ex : ∃ dr N, DrG dr N ∧ made = rowsD dr ∧ storeB (wholeV dr) = false
theorem SpoilR.size {made : List Str} (c : SpoilR made) : made.length ≤ 33 ∧ (made.map (·.length)).sum + made.length * ("\n" : Str).length ≤ 40000 ∧ (Txt.join ("\n" : Str) made).length ≤ 50000 ∧ PySem.W.KSb.Asc (Txt.join ("\n" : Str) made) ∧ readR (Txt.join ("\n" : Str) made) = .inl made.length := by
  obtain ⟨dr, N, g, rfl, sb⟩ := c.ex
  obtain ⟨r1, r2, r3⟩ := g.rows
  have h2 := sum_le (ys := rowsD dr) (B := 1000) fun y hy => (r1 y hy).len
  have h3 : ("\n" : Str).length = 1 := by decide
  have j := join_le ("\n" : Str) (rowsD dr)
  rw [h3] at j ⊢
  refine ⟨r2, by omega, by omega, asc_join' (PySem.W.KSb.asc_of (by decide +kernel)) fun y hy => (r1 y hy).asc, ?_⟩
  rw [read_rows r3 fun r hr => (r1 r hr).ln, g.run]
  show (if storeB (wholeV dr) = true then _ else _) = _
  rw [sb]
  exact if_neg (fun z => by cases z)
theorem sb_split {dr : Dr} {a b c w m f : Nat} (h : dr.head = some [a, b, c, w, m, f]) (hb : storeB (wholeV dr) = true) : headB (.tup [dn a, dn b, dn c, dn w, dn m, dn f]) dr.disks.length = true ∧ (∀ k ∈ dr.disks, diskB (kD k) b c = true) ∧ (∀ (i : Nat) (n : NtW), dr.notes[i]? = some n → noteB (ntV n) i a b c dr.disks.length = true) ∧ ∀ (i : Nat) (n : NtW), dr.notes[i]? = some n → i + 1 < dr.notes.length → isBlk (ntV n) = true := by
  have sb : (headB (numsV dr.head) ((dr.disks.map kD).length : Nat) && (match numsV dr.head with
    | .tup [.int p, .int s, .int r, _, _, _] => ((dr.disks.map kD).all fun x => diskB x s r) && journalB (.tup (dr.notes.map ntV)) p s r ((dr.disks.map kD).length : Nat)
    | _ => false)) = true := hb
  rw [Bool.and_eq_true, List.length_map, h] at sb
  obtain ⟨s1, s2⟩ := sb
  have s2 : (((dr.disks.map kD).all fun x => diskB x b c) && journalB (.tup (dr.notes.map ntV)) a b c dr.disks.length) = true := s2
  rw [Bool.and_eq_true] at s2
  obtain ⟨s2, s3⟩ := s2
  have s3 : (((List.range (dr.notes.map ntV).length).all fun (i : Nat) => noteB ((dr.notes.map ntV).getD i .non) i a b c dr.disks.length) && ((dr.notes.map ntV).take ((dr.notes.map ntV).length - 1)).all isBlk) = true := s3
  rw [Bool.and_eq_true, List.length_map] at s3
  obtain ⟨s3, s4⟩ := s3
  refine ⟨s1, fun k hk => List.all_eq_true.mp s2 _ (List.mem_map_of_mem hk), fun i n hi => ?_, fun i n hi il => ?_⟩
  · have il := (List.getElem?_eq_some_iff.mp hi).1
    have := List.all_eq_true.mp s3 i (List.mem_range.mpr il)
    rw [List.getD_eq_getElem?_getD, List.getElem?_map, hi] at this
    exact this
  · refine List.all_eq_true.mp s4 _ (List.mem_of_getElem? (i := i) ?_)
    rw [List.getElem?_take_of_lt (by omega), List.getElem?_map, hi]
    rfl
theorem sb_false {b : Bool} (h : b = true → False) : b = false := by
  cases b
  · rfl
  · exact (h rfl).elim
structure FullD (h : Head) (ks : List Disk) : Prop where
  ex : ∃ bs, some bs ∈ ks ∧ bs.length = h.rows ∧ ∃ b, some b ∈ bs ∧ b.length = h.size
theorem joinL_snoc (S : List Nat) (p : List Nat) : ∀ {ps : List (List Nat)}, ps ≠ [] → TL.joinL S (ps ++ [p]) = TL.joinL S ps ++ (S ++ p)
  | [], h => absurd rfl h
  | [a], _ => rfl
  | a :: b :: r, _ => by
    show a ++ (S ++ TL.joinL S ((b :: r) ++ [p])) = (a ++ (S ++ TL.joinL S (b :: r))) ++ (S ++ p)
    rw [joinL_snoc S p (List.cons_ne_nil b r)]
    simp only [List.append_assoc]
theorem join_snoc {ws : List Str} (h : ws ≠ []) (w : Str) : Txt.join (" " : Str) (ws ++ [w]) = Txt.join (" " : Str) ws ++ (" " : Str) ++ w := by
  refine TL.ext_tl ?_
  rw [TL.tl_append, TL.tl_append, TL.join_eq, TL.join_eq, TL.tl_join, TL.tl_join, List.map_append, tl_blank.1]
  show TL.joinL [32] (ws.map TL.tl ++ [TL.tl w]) = _
  rw [joinL_snoc _ _ (fun z => h (List.map_eq_nil_iff.mp z)), List.append_assoc]
structure BadK (h : Head) (k : Disk) : Prop where
  g : DskG k
  no : ¬ DiskOk k h.size h.rows
structure SpS (h : Head) (ks : List Disk) (bs : List Blk) : Prop where
  ok : h.Ok ks.length
  kd : ∀ k ∈ ks, DiskOk k h.size h.rows
  b1 : 1 ≤ bs.length
  b2 : bs.length ≤ 10
  bb : ∀ b ∈ bs, BlkOk' b h.size
  k0 : ∃ cs, ks[0]? = some (some cs) ∧ cs.length = h.rows ∧ ∀ o ∈ cs, ∃ b, o = some b
def ntsS (ks : List Disk) (bs : List Blk) : List NtW := bs.map (fun b => NtW.blk [0, 0] (some b)) ++ [.fin [bs.length, ks.length, 0]]
theorem blkG_ok {b : Blk} {size : Nat} (z1 : 1 ≤ size) (z2 : size ≤ 16) (h : BlkOk' b size) : BlkG (some b) := fun c e => by
  cases e
  exact ⟨by rw [h.1]; exact z1, by rw [h.1]; omega, h.2⟩
theorem dskG_ok {k : Disk} {size rows : Nat} (z1 : 1 ≤ size) (z2 : size ≤ 16) (r1 : 1 ≤ rows) (r2 : rows ≤ 24) (h : DiskOk k size rows) : DskG k := fun bs e => by
  subst e
  obtain ⟨a, b⟩ := h bs rfl
  refine ⟨by omega, by omega, fun o ho => ?_⟩
  cases o with
  | none => exact fun b e => by cases e
  | some x => exact blkG_ok z1 z2 (b _ ho x rfl)
section
variable {h : Head} {ks : List Disk} {bs : List Blk}
theorem SpS.many (s : SpS h ks bs) : 2 ≤ ks.length ∧ ks.length ≤ 10 := by
  have w1 := s.ok.width1
  have w2 := s.ok.width2
  have p1 := s.ok.par1
  have wm := s.ok.many
  omega
theorem SpS.dsk (s : SpS h ks bs) : ∀ k ∈ ks, DskG k := fun k hk => dskG_ok s.ok.size1 s.ok.size2 s.ok.rows1 s.ok.rows2 (s.kd k hk)
theorem SpS.nts (s : SpS h ks bs) : ∀ n ∈ ntsS ks bs, NtG n := fun n hn => by
  have m := s.many
  have b2 := s.b2
  rcases List.mem_append.mp hn with q | q
  · obtain ⟨b, hb, rfl⟩ := List.mem_map.mp q
    exact ⟨rfl, fun x hx => by simp at hx; omega, blkG_ok s.ok.size1 s.ok.size2 (s.bb b hb)⟩
  · rw [List.mem_singleton.mp q]
    exact ⟨rfl, fun x hx => by
      simp only [List.mem_cons, List.not_mem_nil, or_false] at hx
      omega⟩
theorem ntsS_len (ks : List Disk) (bs : List Blk) : (ntsS ks bs).length = bs.length + 1 := by
  unfold ntsS
  rw [List.length_append, List.length_map]
  rfl
theorem SpS.hb (s : SpS h ks bs) : ∀ m ∈ hdNs h, m < 10 ^ 12 := fun m hm => Nat.lt_trans (hd_ok s.ok m hm) (by decide)
theorem SpS.rows (h : Head) (ks : List Disk) (bs : List Blk) : rowsT (stN h ks bs) = headT h :: (ks.map diskT ++ (ntsS ks bs).map ntT) := by
  unfold rowsT
  show headT h :: (ks.map diskT ++ (bs.map (fun b => Note.block 0 0 b) ++ [Note.fin bs.length ks.length 0]).map noteT) = _
  unfold ntsS
  rw [List.map_append, List.map_append, List.map_map, List.map_map]
  rfl
theorem SpS.full (s : SpS h ks bs) : FullD h ks := by
  obtain ⟨cs, e, l, f⟩ := s.k0
  have r1 := s.ok.rows1
  have hm := List.mem_of_getElem? e
  refine ⟨cs, hm, l, ?_⟩
  have c0 : 0 < cs.length := by omega
  obtain ⟨b, hb⟩ := f cs[0] (List.getElem_mem c0)
  refine ⟨b, by rw [← hb]; exact List.getElem_mem c0, ?_⟩
  exact ((s.kd _ hm cs rfl).2 _ (List.getElem_mem c0) b hb).1
theorem SpS.spoil (s : SpS h ks bs) {N : List Nat} {ks' : List Disk} {nts' : List NtW} (n6 : N.length = 6) (nb : ∀ m ∈ N, m < 10 ^ 12) (dk : ∀ k ∈ ks', DskG k) (nt : ∀ n ∈ nts', NtG n) (dl : ks'.length ≤ 20) (nl : nts'.length ≤ 12) (sb : storeB (wholeV ⟨some N, ks', nts'⟩) = false) : SpoilR (Txt.join (" " : Str) (("store" : Str) :: N.map fun n : Nat => strI (n : Int)) :: (ks'.map diskT ++ nts'.map ntT)) :=
  ⟨⟨some N, ks', nts'⟩, N, ⟨rfl, n6, nb, dk, nt, dl, nl⟩, rfl, sb⟩
theorem SpS.way2 (s : SpS h ks bs) {ks' : List Disk} {nts' : List NtW} (dk : ∀ k ∈ ks', DskG k) (nt : ∀ n ∈ nts', NtG n) (dl : ks' = [] ∨ (12 ≤ ks'.length ∧ ks'.length ≤ 20)) (nl : nts'.length ≤ 12) : SpoilR (headT h :: (ks'.map diskT ++ nts'.map ntT)) := by
  refine s.spoil (N := hdNs h) rfl s.hb dk nt (dl.elim (fun q => by rw [q]; decide) fun q => q.2) nl (sb_false fun sb => ?_)
  obtain ⟨s1, _, _, _⟩ := sb_split (a := h.par) (b := h.size) (c := h.rows) (w := h.width) (m := h.moved) (f := h.spares) rfl sb
  have hs := headB_inv s1 (Nat.lt_of_le_of_lt s.ok.sp (by decide))
  have h1 : h.par + 1 ≤ h.width := hs.width1
  have h2 : h.width ≤ 10 := hs.width2
  have h3 : (ks'.length = h.width ∧ h.moved = 0) ∨ (ks'.length = h.width + 1 ∧ ks'.length ≤ 10 ∧ h.moved < h.rows) := hs.many
  rcases dl with q | q
  · rw [q] at h3
    have h3 : (0 = h.width ∧ h.moved = 0) ∨ (0 = h.width + 1 ∧ 0 ≤ 10 ∧ h.moved < h.rows) := h3
    omega
  · omega
theorem SpS.way3 (s : SpS h ks bs) {nts' : List NtW} (nt : ∀ n ∈ nts', NtG n) (nl : nts'.length ≤ 12) {i : Nat} {n : NtW} (hi : nts'[i]? = some n) (bad : noteB (ntV n) i h.par h.size h.rows ks.length = false ∨ (i + 1 < nts'.length ∧ isBlk (ntV n) = false)) : SpoilR (headT h :: (ks.map diskT ++ nts'.map ntT)) := by
  have m := s.many
  refine s.spoil (N := hdNs h) rfl s.hb s.dsk nt (by omega) nl (sb_false fun sb => ?_)
  obtain ⟨_, _, s3, s4⟩ := sb_split (a := h.par) (b := h.size) (c := h.rows) (w := h.width) (m := h.moved) (f := h.spares) rfl sb
  rcases bad with q | ⟨q1, q2⟩
  · have := s3 i n hi
    rw [show noteB (ntV n) i h.par h.size h.rows ks.length = false from q] at this
    cases this
  · have := s4 i n hi q1
    rw [q2] at this
    cases this
end
structure MemA (p q a : Addr) (R : List Dv) (M : Ms) : Prop where
  d : DPot p q M
  l : M a = some (.lst R)
theorem MemA.new {p q a b : Addr} {R : List Dv} {M : Ms} {c : Cell} (h : MemA p q a R M) (hb : M b = none) : MemA p q a R (mup M b c) := ⟨h.d.put (h.d.nep hb) (h.d.neq hb), look_new h.l hb⟩
section
variable {h : Head} {ks : List Disk} {bs : List Blk}
theorem rows_ab (h : Head) (ks : List Disk) (bs : List Blk) : rowsT (stN h ks bs) = (headT h :: ks.map diskT) ++ (ntsS ks bs).map ntT := by
  rw [SpS.rows]
  rfl
theorem SpS.more (s : SpS h ks bs) : SpoilR ((rowsT (stN h ks bs)).take 2 ++ (List.replicate 10 (((rowsT (stN h ks bs)).drop 1).take 1)).flatten ++ (rowsT (stN h ks bs)).drop 2) := by
  have b2 := s.b2
  have m := s.many
  have sd := s.dsk
  have nts := s.nts
  rw [SpS.rows]
  have w2 := fun (ks' : List Disk) => s.way2 (ks' := ks') (nts' := ntsS ks bs)
  cases hks : ks with
  | nil => rw [hks] at m; have m : 2 ≤ 0 ∧ _ := m; omega
  | cons k0 kr =>
    rw [← hks]
    have e : (headT h :: (ks.map diskT ++ (ntsS ks bs).map ntT)).take 2 ++ (List.replicate 10 (((headT h :: (ks.map diskT ++ (ntsS ks bs).map ntT)).drop 1).take 1)).flatten ++ (headT h :: (ks.map diskT ++ (ntsS ks bs).map ntT)).drop 2 = headT h :: ((k0 :: (List.replicate 10 k0 ++ kr)).map diskT ++ (ntsS ks bs).map ntT) := by
      have e2 : ks.map diskT = diskT k0 :: kr.map diskT := by rw [hks]; rfl
      rw [e2, List.map_cons, List.map_append, List.map_replicate]
      show [headT h, diskT k0] ++ (List.replicate 10 [diskT k0]).flatten ++ (kr.map diskT ++ (ntsS ks bs).map ntT) = _
      rw [List.flatten_replicate_singleton]
      simp only [List.cons_append, List.nil_append, List.append_assoc]
    rw [e]
    have kl : ks.length = kr.length + 1 := by rw [hks]; rfl
    refine w2 _ (fun k hk => ?_) nts (.inr ?_) (by rw [ntsS_len]; omega)
    · have : k = k0 ∨ k ∈ kr := by
        rcases List.mem_cons.mp hk with z | z
        · exact .inl z
        · rcases List.mem_append.mp z with z | z
          · exact .inl (List.mem_replicate.mp z).2
          · exact .inr z
      refine sd k ?_
      rw [hks]
      rcases this with z | z
      · rw [z]; exact List.mem_cons_self ..
      · exact List.mem_cons_of_mem _ z
    · rw [List.length_cons, List.length_append, List.length_replicate]
      omega
theorem isBlk_fin (ns : List Nat) : isBlk (ntV (.fin ns)) = false := by
  show decide (("end" : Str) = ("block" : Str)) = false
  exact decide_eq_false (by decide +kernel)
theorem SpS.blkG (s : SpS h ks bs) : ∀ n ∈ bs.map (fun b => NtW.blk [0, 0] (some b)), NtG n := fun n hn => s.nts n (List.mem_append_left _ hn)
theorem SpS.two (s : SpS h ks bs) {n : NtW} (hn : NtG n) : SpoilR (rowsT (stN h ks bs) ++ [ntT n]) := by
  have b2 := s.b2
  have e : rowsT (stN h ks bs) ++ [ntT n] = headT h :: (ks.map diskT ++ (ntsS ks bs ++ [n]).map ntT) := by
    rw [SpS.rows, List.map_append, List.cons_append, List.append_assoc]
    rfl
  rw [e]
  refine s.way3 (nts' := ntsS ks bs ++ [n]) (fun x hx => ?_) (by rw [List.length_append, ntsS_len]; show bs.length + 1 + 1 ≤ 12; omega) (i := bs.length) (n := .fin [bs.length, ks.length, 0]) ?_ (.inr ⟨by rw [List.length_append, ntsS_len]; show _ < bs.length + 1 + 1; omega, isBlk_fin _⟩)
  · rcases List.mem_append.mp hx with q | q
    · exact s.nts x q
    · rw [List.mem_singleton.mp q]; exact hn
  · rw [List.getElem?_append_left (by rw [ntsS_len]; omega)]
    unfold ntsS
    rw [List.getElem?_append_right (by rw [List.length_map]; exact Nat.le_refl _), List.length_map, Nat.sub_self]
    rfl
theorem SpS.first (s : SpS h ks bs) {n : NtW} (hn : NtG n) (bad : noteB (ntV n) 0 h.par h.size h.rows ks.length = false) : SpoilR ((rowsT (stN h ks bs)).set (1 + ks.length) (ntT n)) := by
  have b1 := s.b1
  have b2 := s.b2
  have e : (rowsT (stN h ks bs)).set (1 + ks.length) (ntT n) = headT h :: (ks.map diskT ++ ((ntsS ks bs).set 0 n).map ntT) := by
    have l : (headT h :: ks.map diskT).length = 1 + ks.length := by rw [List.length_cons, List.length_map]; omega
    rw [rows_ab, List.set_append_right _ _ (by omega), l, Nat.sub_self, List.map_set]
    rfl
  rw [e]
  refine s.way3 (nts' := (ntsS ks bs).set 0 n) (fun x hx => ?_) (by rw [List.length_set, ntsS_len]; omega) (i := 0) (n := n) (by rw [List.getElem?_set_self (by rw [ntsS_len]; omega)]) (.inl bad)
  rcases List.mem_or_eq_of_mem_set hx with q | q
  · exact s.nts x q
  · rw [q]; exact hn
end
section
variable {h : Head} {ks : List Disk} {bs : List Blk}
end
theorem NtG.wlen {n : NtW} (h : NtG n) : (∀ v ∈ ntWs n, v.length ≤ 100) ∧ (ntWs n).length = 4 := by
  cases n with
  | fin ns =>
    refine ⟨fun v hv => ?_, by show (_ :: _).length = 4; rw [List.length_cons, List.length_map, h.1]⟩
    rcases List.mem_cons.mp hv with rfl | q
    · exact Nat.le_trans len_words.2.2.2 (by decide)
    · exact Nat.le_trans (row_nums h.2 q).2 (by decide)
  | blk ns b =>
    refine ⟨fun v hv => ?_, by show ((("note" : Str) :: ns.map fun n : Nat => strI (n : Int)) ++ [oT b]).length = 4; rw [List.length_append, List.length_cons, List.length_map, h.1]; rfl⟩
    rcases List.mem_append.mp hv with q | q
    · rcases List.mem_cons.mp q with rfl | q
      · exact Nat.le_trans len_words.2.2.1 (by decide)
      · exact Nat.le_trans (row_nums h.2.1 q).2 (by decide)
    · rw [List.mem_singleton.mp q]
      exact Nat.le_trans h.2.2.len (by decide)
section
variable {h : Head} {ks : List Disk} {bs : List Blk}
end
end Law
set_option maxHeartbeats 1000000
namespace Law
open PySem L2 HC PyProof.Rows NumText
def No32 (w : Str) : Prop := (32 : Nat) ∉ TL.tl w
theorem NoWs.no {w : Str} (h : NoWs w) : No32 w := fun z => by
  have := h 32 z
  omega
theorem split32 {ws : List Str} (h0 : ws ≠ []) (h : ∀ w ∈ ws, No32 w) : Txt.split (Txt.join (" " : Str) ws) (" " : Str) = ws := TL.split_join tl_blank.1 tl_blank.2.1 h0 h
theorem put_dbad {dr : Dr} {row : Str} (h : dr.head ≠ none) (w : fw row = ("disk" : Str)) (b : ((Txt.split row (" " : Str)).drop 1).all isB = false) : putR dr row = none := by
  unfold fw at w
  unfold putR
  rw [if_neg h, if_pos (.inl w)]
  unfold putD
  by_cases n : dr.notes = []
  · rw [if_neg (fun z => z n), if_neg (fun z => by rw [z] at w; exact w_ne.2.2.2.2.2.2 w.symm), if_pos (.inr (.inr b))]
  · rw [if_pos n]
theorem put_lbad {dr : Dr} {row : Str} (h : dr.head ≠ none) (w : fw row = ("lost" : Str)) (b : Txt.split row (" " : Str) ≠ [("lost" : Str)]) : putR dr row = none := by
  unfold fw at w
  unfold putR
  rw [if_neg h, if_pos (.inr w)]
  unfold putD
  by_cases n : dr.notes = []
  · rw [if_neg (fun z => z n), if_neg b, if_pos (.inl (fun z => w_ne.2.2.2.2.2.2 (z.symm.trans w)))]
  · rw [if_pos n]
theorem put_ebad {dr : Dr} {row : Str} (h : dr.head ≠ none) (w : fw row = ("end" : Str)) (b : numsW ((Txt.split row (" " : Str)).drop 1) 3 = none) : putR dr row = none := by
  unfold fw at w
  unfold putR
  rw [if_neg h, if_neg (fun z => z.elim (fun y => w_ne.2.2.2.2.1 (w.symm.trans y)) fun y => w_ne.2.2.2.2.2.1 (w.symm.trans y))]
  unfold putN
  rw [if_pos w, b]
theorem put_nbad {dr : Dr} {row : Str} (h : dr.head ≠ none) (w : fw row = ("note" : Str)) (b : (Txt.split row (" " : Str)).length ≠ 4 ∨ isB ((Txt.split row (" " : Str)).getD 3 ("" : Str)) = false ∨ numsW (((Txt.split row (" " : Str)).drop 1).take 2) 2 = none) : putR dr row = none := by
  unfold fw at w
  unfold putR
  rw [if_neg h, if_neg (fun z => z.elim (fun y => w_ne.2.2.1 (w.symm.trans y)) fun y => w_ne.2.2.2.1 (w.symm.trans y))]
  unfold putN
  rw [if_neg (fun z => w_ne.2.1 (w.symm.trans z))]
  cases q : numsW (((Txt.split row (" " : Str)).drop 1).take 2) 2 with
  | none => rfl
  | some ns =>
    show (if _ then none else some _) = none
    rw [if_pos]
    rcases b with b | b | b
    · exact .inr (.inl b)
    · exact .inr (.inr b)
    · rw [q] at b; cases b
theorem put_hbad {dr : Dr} {row : Str} (h : dr.head = none) (b : numsW ((Txt.split row (" " : Str)).drop 1) 6 = none) : putR dr row = none := by
  unfold putR
  rw [if_pos h]
  unfold putH
  rw [b]
theorem numsW_len {ws : List Str} {m : Nat} (h : ws.length ≠ m) : numsW ws m = none := if_neg fun z => h z.1
theorem numsW_bad {ws : List Str} {m : Nat} {w : Str} (hw : w ∈ ws) (h : numW w = none) : numsW ws m = none := if_neg fun z => z.2 (List.mem_map.mpr ⟨w, hw, h⟩)
theorem all_bad {ws : List Str} {w : Str} (hw : w ∈ ws) (h : isB w = false) : ws.all isB = false := by
  cases q : ws.all isB with
  | false => rfl
  | true => rw [List.all_eq_true.mp q w hw] at h; cases h
theorem spl_first {c : Nat} (h : c ≠ 32) : ∀ (l acc : List Nat), ∃ r rest, TL.spl [32] 0 (c :: acc) l = (c :: r) :: rest
  | [], acc => ⟨acc, [], by unfold TL.spl; rfl⟩
  | d :: l, acc => by
    unfold TL.spl
    split
    · exact ⟨acc, _, rfl⟩
    · obtain ⟨r, rest, e⟩ := spl_first h l (acc ++ [d])
      exact ⟨r, rest, e⟩
theorem fw_first {row : Str} {c : Nat} {l : List Nat} (e : TL.tl row = c :: l) (h : c ≠ 32) : ∃ r, TL.tl (fw row) = c :: r := by
  have s := TL.split_spl row (" " : Str) (by rw [tl_blank.1]; simp) (TL.kind_ok tl_blank.2.1)
  rw [tl_blank.1, e] at s
  have s2 : TL.spl [32] 0 [] (c :: l) = TL.spl [32] 0 [c] l := by
    rw [TL.spl]
    rw [if_neg]
    · rfl
    · intro z
      have z : ([c] == [32]) = true := z
      rw [beq_iff_eq] at z
      exact h (by injection z)
  rw [s2] at s
  obtain ⟨r, rest, e2⟩ := spl_first h l []
  rw [e2] at s
  unfold fw
  cases q : Txt.split row (" " : Str) with
  | nil => rw [q] at s; cases s
  | cons a b =>
    rw [q] at s
    rw [List.map_cons] at s
    injection s with s1 s2
    exact ⟨r, s1⟩
theorem key_first : (TL.tl ("disk" : Str)).head? = some 100 ∧ (TL.tl ("lost" : Str)).head? = some 108 ∧ (TL.tl ("note" : Str)).head? = some 110 ∧ (TL.tl ("end" : Str)).head? = some 101 ∧ (TL.tl ("store" : Str)).head? = some 115 := by decide +kernel
theorem put_sign {dr : Dr} {row : Str} {c : Nat} {l : List Nat} (e : TL.tl row = c :: l) (h : c ≠ 32) (k : c ≠ 100 ∧ c ≠ 108 ∧ c ≠ 110 ∧ c ≠ 101 ∧ c ≠ 115) : putR dr row = none := by
  obtain ⟨r, f⟩ := fw_first e h
  have no : ∀ {w : Str} {d : Nat}, (TL.tl w).head? = some d → c ≠ d → fw row ≠ w := fun hw hd z => by
    rw [← z, f] at hw
    exact hd (by injection hw)
  by_cases hd : dr.head = none
  · exact put_none hd (no key_first.2.2.2.2 k.2.2.2.2)
  · exact put_other hd (no key_first.1 k.1) (no key_first.2.1 k.2.1) (no key_first.2.2.1 k.2.2.1) (no key_first.2.2.2.1 k.2.2.2.1)
theorem put_word {dr : Dr} {row : Str} (w0 : fw row ≠ ("store" : Str)) (w1 : fw row ≠ ("disk" : Str)) (w2 : fw row ≠ ("lost" : Str)) (w3 : fw row ≠ ("note" : Str)) (w4 : fw row ≠ ("end" : Str)) : putR dr row = none := by
  by_cases hd : dr.head = none
  · exact put_none hd w0
  · exact put_other hd w1 w2 w3 w4
theorem join_cons2 {ws : List Str} (h : ws ≠ []) (w : Str) : Txt.join (" " : Str) (w :: ws) = w ++ (" " : Str) ++ Txt.join (" " : Str) ws := by
  refine TL.ext_tl ?_
  rw [TL.tl_append, TL.tl_append, TL.join_eq, TL.join_eq, TL.tl_join, TL.tl_join, tl_blank.1]
  cases ws with
  | nil => exact absurd rfl h
  | cons a r =>
    show TL.tl w ++ ([32] ++ TL.joinL [32] (TL.tl a :: r.map TL.tl)) = _
    rw [List.append_assoc]
    rfl
theorem append_empty (r : Str) : r ++ ("" : Str) = r ∧ ("" : Str) ++ r = r := by
  refine ⟨TL.ext_tl ?_, TL.ext_tl ?_⟩
  · rw [TL.tl_append, tl_empty, List.append_nil]
  · rw [TL.tl_append, tl_empty, List.nil_append]
theorem no_empty : No32 ("" : Str) := by
  unfold No32
  rw [tl_empty]
  simp
theorem row_end {ws : List Str} (h0 : ws ≠ []) : Txt.join (" " : Str) ws ++ (" " : Str) = Txt.join (" " : Str) (ws ++ [("" : Str)]) := by
  rw [join_snoc h0, (append_empty _).1]
theorem row_start {ws : List Str} (h0 : ws ≠ []) : (" " : Str) ++ Txt.join (" " : Str) ws = Txt.join (" " : Str) (("" : Str) :: ws) := by
  rw [join_cons2 h0, (append_empty _).2]
theorem join_cut (S p q : List Nat) : ∀ (A B : List (List Nat)), TL.joinL S (A ++ (p ++ (S ++ q)) :: B) = TL.joinL S (A ++ p :: q :: B)
  | [], [] => by
    show p ++ (S ++ q) = p ++ (S ++ q)
    rfl
  | [], b :: B => by
    show (p ++ (S ++ q)) ++ (S ++ TL.joinL S (b :: B)) = p ++ (S ++ (q ++ (S ++ TL.joinL S (b :: B))))
    simp only [List.append_assoc]
  | [a], B => by
    show a ++ (S ++ TL.joinL S ((p ++ (S ++ q)) :: B)) = a ++ (S ++ TL.joinL S (p :: q :: B))
    rw [show TL.joinL S ((p ++ (S ++ q)) :: B) = TL.joinL S (p :: q :: B) from join_cut S p q [] B]
  | a :: a2 :: A, B => by
    show a ++ (S ++ TL.joinL S ((a2 :: A) ++ (p ++ (S ++ q)) :: B)) = a ++ (S ++ TL.joinL S ((a2 :: A) ++ p :: q :: B))
    rw [join_cut S p q (a2 :: A) B]
theorem join_two {A B : List Str} {w x y : Str} (e : TL.tl w = TL.tl x ++ ([32] ++ TL.tl y)) : Txt.join (" " : Str) (A ++ w :: B) = Txt.join (" " : Str) (A ++ x :: y :: B) := by
  refine TL.ext_tl ?_
  rw [TL.join_eq, TL.join_eq, TL.tl_join, TL.tl_join, tl_blank.1, List.map_append, List.map_append, List.map_cons, List.map_cons, List.map_cons, e]
  exact join_cut _ _ _ _ _
inductive RowK : Bool → List Str → Prop
  | head {ns : List Nat} (l : ns.length = 6) (b : ∀ n ∈ ns, n < 10 ^ 12) : RowK true (("store" : Str) :: ns.map fun n : Nat => strI (n : Int))
  | lost : RowK false [("lost" : Str)]
  | disk {bs : List (Option Blk)} (l : 1 ≤ bs.length ∧ bs.length ≤ 24) (g : ∀ o ∈ bs, BlkG o) : RowK false (("disk" : Str) :: bs.map oT)
  | note {ns : List Nat} {b : Blk} (g : NtG (.blk ns (some b))) : RowK false (ntWs (.blk ns (some b)))
  | fin {ns : List Nat} (g : NtG (.fin ns)) : RowK false (ntWs (.fin ns))
def RestBad (w : Str) (rest : List Str) : Prop :=
  (w = ("store" : Str) → numsW rest 6 = none) ∧ (w = ("lost" : Str) → rest ≠ []) ∧ (w = ("disk" : Str) → rest.all isB = false) ∧
  (w = ("note" : Str) → rest.length ≠ 3 ∨ isB (rest.getD 2 ("" : Str)) = false ∨ numsW (rest.take 2) 2 = none) ∧ (w = ("end" : Str) → numsW rest 3 = none)
def BadP (hd : Bool) (r : Str) : Prop := ∀ dr : Dr, (dr.head = none ↔ hd = true) → putR dr r = none
theorem RowK.first {hd : Bool} {W : List Str} (k : RowK hd W) : ∃ w rest, W = w :: rest ∧ ((hd = true ∧ w = ("store" : Str)) ∨ (hd = false ∧ (w = ("lost" : Str) ∨ w = ("disk" : Str) ∨ w = ("note" : Str) ∨ w = ("end" : Str)))) := by
  cases k with
  | head l b => exact ⟨_, _, rfl, .inl ⟨rfl, rfl⟩⟩
  | lost => exact ⟨_, _, rfl, .inr ⟨rfl, .inl rfl⟩⟩
  | disk l g => exact ⟨_, _, rfl, .inr ⟨rfl, .inr (.inl rfl)⟩⟩
  | note g => exact ⟨_, _, rfl, .inr ⟨rfl, .inr (.inr (.inl rfl))⟩⟩
  | fin g => exact ⟨_, _, rfl, .inr ⟨rfl, .inr (.inr (.inr rfl))⟩⟩
theorem bad_words {hd : Bool} {w : Str} {rest : List Str} (k : (hd = true ∧ w = ("store" : Str)) ∨ (hd = false ∧ (w = ("lost" : Str) ∨ w = ("disk" : Str) ∨ w = ("note" : Str) ∨ w = ("end" : Str)))) {r : Str} (e : Txt.split r (" " : Str) = w :: rest) (b : RestBad w rest) : BadP hd r := by
  intro dr hdr
  have ef : fw r = w := by
    unfold fw
    rw [e]
    rfl
  obtain ⟨b1, b2, b3, b4, b5⟩ := b
  rcases k with ⟨h1, h2⟩ | ⟨h1, h2⟩
  · exact put_hbad (hdr.mpr h1) (by rw [e]; exact b1 h2)
  · have hn : dr.head ≠ none := fun z => by
      have := hdr.mp z
      rw [h1] at this
      cases this
    rcases h2 with h2 | h2 | h2 | h2
    · exact put_lbad hn (ef.trans h2) (fun z => by
        rw [e] at z
        injection z with _ z
        exact b2 h2 z)
    · exact put_dbad hn (ef.trans h2) (by rw [e]; exact b3 h2)
    · refine put_nbad hn (ef.trans h2) ?_
      rw [e]
      rcases b4 h2 with q | q | q
      · exact .inl (by rw [List.length_cons]; omega)
      · exact .inr (.inl q)
      · exact .inr (.inr q)
    · exact put_ebad hn (ef.trans h2) (by rw [e]; exact b5 h2)
theorem bad_other {hd : Bool} {r : Str} (w0 : fw r ≠ ("store" : Str)) (w1 : fw r ≠ ("disk" : Str)) (w2 : fw r ≠ ("lost" : Str)) (w3 : fw r ≠ ("note" : Str)) (w4 : fw r ≠ ("end" : Str)) : BadP hd r := fun dr _ => put_word w0 w1 w2 w3 w4
theorem bad_empty {hd : Bool} {r : Str} (e : fw r = ("" : Str)) : BadP hd r := by
  obtain ⟨n1, n2, n3, n4, n5, n6, n7, n8, n9⟩ := words_ne
  exact bad_other (by rw [e]; exact n9) (by rw [e]; exact n5) (by rw [e]; exact n6) (by rw [e]; exact n7) (by rw [e]; exact n8)
theorem keys_ne : ("store" : Str) ≠ ("lost" : Str) ∧ ("store" : Str) ≠ ("disk" : Str) ∧ ("store" : Str) ≠ ("note" : Str) ∧ ("store" : Str) ≠ ("end" : Str) ∧ ("lost" : Str) ≠ ("disk" : Str) ∧ ("lost" : Str) ≠ ("note" : Str) ∧ ("lost" : Str) ≠ ("end" : Str) ∧ ("disk" : Str) ≠ ("note" : Str) ∧ ("disk" : Str) ≠ ("end" : Str) ∧ ("note" : Str) ≠ ("end" : Str) := by decide +kernel
theorem empty_bad : numW ("" : Str) = none ∧ isB ("" : Str) = false := by decide +kernel
theorem RowK.rest {hd : Bool} {w : Str} {rest : List Str} (k : RowK hd (w :: rest)) : (w = ("store" : Str) → rest.length = 6) ∧ (w = ("lost" : Str) → rest = []) ∧ (w = ("note" : Str) → rest.length = 3) ∧ (w = ("end" : Str) → rest.length = 3) ∧ (w = ("disk" : Str) → 1 ≤ rest.length) := by
  obtain ⟨n1, n2, n3, n4, n5, n6, n7, n8, n9, n10⟩ := keys_ne
  cases k with
  | head l b => exact ⟨fun _ => by rw [List.length_map]; exact l, fun z => absurd z n1, fun z => absurd z n3, fun z => absurd z n4, fun z => absurd z n2⟩
  | lost => exact ⟨fun z => absurd z.symm n1, fun _ => rfl, fun z => absurd z n6, fun z => absurd z n7, fun z => absurd z n5⟩
  | disk l g => exact ⟨fun z => absurd z.symm n2, fun z => absurd z.symm n5, fun z => absurd z n8, fun z => absurd z n9, fun _ => by rw [List.length_map]; exact l.1⟩
  | note g => exact ⟨fun z => absurd z.symm n3, fun z => absurd z.symm n6, fun _ => Nat.succ.inj g.wlen.2, fun z => absurd z n10, fun z => absurd z.symm n8⟩
  | fin g => exact ⟨fun z => absurd z.symm n4, fun z => absurd z.symm n7, fun z => absurd z.symm n10, fun _ => by rw [List.length_map]; exact g.1, fun z => absurd z.symm n9⟩
theorem RowK.more {hd : Bool} {w : Str} {rest : List Str} (k : RowK hd (w :: rest)) {x : Str} (hx : w = ("disk" : Str) → isB x = false) : RestBad w (rest ++ [x]) := by
  obtain ⟨r1, r2, r3, r4, r5⟩ := k.rest
  have l : (rest ++ [x]).length = rest.length + 1 := by rw [List.length_append]; rfl
  exact ⟨fun z => numsW_len (by rw [l, r1 z]; decide), fun _ z => by simp at z, fun z => all_bad (List.mem_append_right _ (List.mem_singleton.mpr rfl)) (hx z), fun z => .inl (by rw [l, r3 z]; decide), fun z => numsW_len (by rw [l, r4 z]; decide)⟩
theorem RowK.two {hd : Bool} {w : Str} {rest : List Str} (k : RowK hd (w :: rest)) : RestBad w (("" : Str) :: rest ++ [("" : Str)]) := by
  obtain ⟨r1, r2, r3, r4, r5⟩ := k.rest
  have l : (("" : Str) :: rest ++ [("" : Str)]).length = rest.length + 2 := by rw [List.length_append, List.length_cons]; rfl
  exact ⟨fun z => numsW_len (by rw [l, r1 z]; decide), fun _ z => by simp at z, fun z => all_bad (List.mem_append_right _ (List.mem_singleton.mpr rfl)) empty_bad.2, fun z => .inl (by rw [l, r3 z]; decide), fun z => numsW_len (by rw [l, r4 z]; decide)⟩
def badB : List Str := [("" : Str), ("0" : Str), ("abc" : Str), ("0g" : Str), ("AB" : Str), ("aB" : Str), ("--" : Str), ("0-" : Str), ("0x10" : Str), ("1 34" : Str), ("zz" : Str), ("00," : Str), ("None" : Str)]
def badN : List Str := [("" : Str), ("01" : Str), ("00" : Str), ("-1" : Str), ("+1" : Str), ("x" : Str), ("1234567890123" : Str), ("1.0" : Str), ("a" : Str), ("0x1" : Str), ("1," : Str), ("-" : Str)]
theorem badB_facts : ∀ w ∈ badB, isB w = false ∧ w.length ≤ 10 ∧ (w.cps.toList.all fun c => decide (c < 128)) = true ∧ (10 : Nat) ∉ TL.tl w ∧ (w = ("1 34" : Str) ∨ (32 : Nat) ∉ TL.tl w) := by decide +kernel
theorem badN_facts : ∀ w ∈ badN, numW w = none ∧ w.length ≤ 13 ∧ (w.cps.toList.all fun c => decide (c < 128)) = true ∧ (10 : Nat) ∉ TL.tl w ∧ (32 : Nat) ∉ TL.tl w := by decide +kernel
theorem two_parts : TL.tl ("1 34" : Str) = TL.tl ("1" : Str) ++ ([32] ++ TL.tl ("34" : Str)) ∧ isB ("1" : Str) = false := by decide +kernel
structure RowQ (r : Str) : Prop where
  ln : NoLn r
  asc : PySem.W.KSb.Asc r
  len : r.length ≤ 1200
def WdQ (v : Str) : Prop := (10 : Nat) ∉ TL.tl v ∧ PySem.W.KSb.Asc v ∧ v.length ≤ 40
theorem rowQ_of {ws : List Str} (h : ∀ v ∈ ws, WdQ v) (l : ws.length ≤ 27) : RowQ (Txt.join (" " : Str) ws) := by
  refine ⟨fun hc => ?_, asc_join' asc_sp fun v hv => (h v hv).2.1, ?_⟩
  · rw [TL.join_eq, TL.tl_join, tl_blank.1] at hc
    rcases joinL_mem hc with q | ⟨p, hp, q⟩
    · exact absurd (List.mem_singleton.mp q) (by decide)
    · obtain ⟨w, hw, rfl⟩ := List.mem_map.mp hp
      exact (h w hw).1 q
  · have j := join_le (" " : Str) ws
    have s := sum_le fun v hv => (h v hv).2.2
    have h4 : (" " : Str).length = 1 := by decide
    rw [h4] at j
    have : ws.length * 40 ≤ 27 * 40 := Nat.mul_le_mul_right _ l
    omega
theorem wdQ_of {v : Str} (a : (v.cps.toList.all fun c => decide (c < 128)) = true) (b : (10 : Nat) ∉ TL.tl v) (c : v.length ≤ 40) : WdQ v := ⟨b, PySem.W.KSb.asc_of a, c⟩
theorem wdQ_const : WdQ ("" : Str) ∧ WdQ ("00" : Str) ∧ WdQ ("1" : Str) ∧ WdQ ("34" : Str) := ⟨wdQ_of (by decide +kernel) (by decide +kernel) (by decide +kernel), wdQ_of (by decide +kernel) (by decide +kernel) (by decide +kernel), wdQ_of (by decide +kernel) (by decide +kernel) (by decide +kernel), wdQ_of (by decide +kernel) (by decide +kernel) (by decide +kernel)⟩
structure WordsK (W : List Str) : Prop where
  ws : ∀ v ∈ W, NoWs v
  wd : ∀ v ∈ W, WdQ v
  sh : ∀ v ∈ W, v.length ≤ 34
  ln : W.length ≤ 25
theorem noWs_ln {v : Str} (h : NoWs v) : (10 : Nat) ∉ TL.tl v := fun z => by
  have := h 10 z
  omega
theorem RowK.words {hd : Bool} {W : List Str} (k : RowK hd W) : WordsK W := by
  have mk : ∀ {W : List Str}, (∀ v ∈ W, NoWs v) → (∀ v ∈ W, PySem.W.KSb.Asc v) → (∀ v ∈ W, v.length ≤ 34) → W.length ≤ 25 → WordsK W := fun a b c d => ⟨a, fun v hv => ⟨noWs_ln (a v hv), b v hv, Nat.le_trans (c v hv) (by decide)⟩, c, d⟩
  cases k with
  | head l b =>
    refine mk (fun v hv => ?_) (fun v hv => ?_) (fun v hv => ?_) (by rw [List.length_cons, List.length_map, l]; decide)
    all_goals rcases List.mem_cons.mp hv with rfl | q
    · exact ws_words.1
    · exact ws_nums v q
    · exact asc_words.1
    · exact (row_nums b q).1
    · exact len_words.1
    · exact (row_nums b q).2
  | lost =>
    refine mk (fun v hv => ?_) (fun v hv => ?_) (fun v hv => ?_) (by decide)
    all_goals rw [List.mem_singleton.mp hv]
    · exact ws_words.2.2.1
    · exact row_const.1.asc
    · decide
  | disk l g =>
    refine mk (fun v hv => ?_) (fun v hv => ?_) (fun v hv => ?_) (by rw [List.length_cons, List.length_map]; omega)
    all_goals rcases List.mem_cons.mp hv with rfl | q
    · exact ws_words.2.1
    · obtain ⟨o, ho, rfl⟩ := List.mem_map.mp q
      exact (g o ho).ws
    · exact asc_words.2.1
    · obtain ⟨o, ho, rfl⟩ := List.mem_map.mp q
      exact asc_oT o
    · exact len_words.2.1
    · obtain ⟨o, ho, rfl⟩ := List.mem_map.mp q
      exact (g o ho).len
  | note g =>
    refine mk g.ws (fun v hv => ?_) (fun v hv => ?_) (by rw [g.wlen.2]; decide)
    all_goals rcases List.mem_append.mp hv with q | q
    · rcases List.mem_cons.mp q with rfl | q
      · exact asc_words.2.2.1
      · exact (row_nums g.2.1 q).1
    · rw [List.mem_singleton.mp q]; exact asc_oT _
    · rcases List.mem_cons.mp q with rfl | q
      · exact len_words.2.2.1
      · exact (row_nums g.2.1 q).2
    · rw [List.mem_singleton.mp q]; exact g.2.2.len
  | fin g =>
    refine mk g.ws (fun v hv => ?_) (fun v hv => ?_) (by rw [g.wlen.2]; decide)
    all_goals rcases List.mem_cons.mp hv with rfl | q
    · exact asc_words.2.2.2
    · exact (row_nums g.2 q).1
    · exact len_words.2.2.2
    · exact (row_nums g.2 q).2
structure BadR (hd : Bool) (r : Str) : Prop where
  p : BadP hd r
  m : RowQ r
section
variable {hd : Bool} {W : List Str} {w : Str} {rest : List Str}
theorem RowK.bad (k : RowK hd (w :: rest)) {rest' : List Str} (n : ∀ v ∈ rest', No32 v) (m : ∀ v ∈ rest', WdQ v) (l : rest'.length ≤ 26) (b : RestBad w rest') : BadR hd (Txt.join (" " : Str) (w :: rest')) := by
  obtain ⟨w', rest0, e, kk⟩ := k.first
  cases e
  have kw := k.words
  refine ⟨bad_words kk (split32 (List.cons_ne_nil _ _) fun v hv => ?_) b, rowQ_of (fun v hv => ?_) (by rw [List.length_cons]; omega)⟩
  · rcases List.mem_cons.mp hv with rfl | q
    · exact (kw.ws _ (List.mem_cons_self ..)).no
    · exact n v q
  · rcases List.mem_cons.mp hv with rfl | q
    · exact kw.wd _ (List.mem_cons_self ..)
    · exact m v q
theorem RowK.a3 (k : RowK hd W) {x : Str} (n : No32 x) (m : WdQ x) (hx : W.head? = some ("disk" : Str) → isB x = false) : BadR hd (Txt.join (" " : Str) (W ++ [x])) := by
  obtain ⟨w, rest, rfl, kk⟩ := k.first
  have kw := k.words
  have ln := kw.ln
  rw [List.length_cons] at ln
  refine k.bad (rest' := rest ++ [x]) (fun v hv => ?_) (fun v hv => ?_) (by rw [List.length_append]; show rest.length + 1 ≤ 26; omega) (k.more fun z => hx (by rw [z]; rfl))
  · rcases List.mem_append.mp hv with q | q
    · exact (kw.ws v (List.mem_cons_of_mem _ q)).no
    · rw [List.mem_singleton.mp q]; exact n
  · rcases List.mem_append.mp hv with q | q
    · exact kw.wd v (List.mem_cons_of_mem _ q)
    · rw [List.mem_singleton.mp q]; exact m
theorem RowK.a8 (k : RowK hd W) : BadR hd (Txt.join (" " : Str) (W.take 1 ++ [("" : Str)] ++ W.drop 1) ++ (" " : Str)) := by
  obtain ⟨w, rest, rfl, kk⟩ := k.first
  have kw := k.words
  have ln := kw.ln
  rw [List.length_cons] at ln
  rw [row_end (by simp)]
  refine k.bad (rest' := ("" : Str) :: rest ++ [("" : Str)]) (fun v hv => ?_) (fun v hv => ?_) (by rw [List.length_append, List.length_cons]; show rest.length + 1 + 1 ≤ 26; omega) k.two
  · rcases List.mem_append.mp hv with q | q
    · rcases List.mem_cons.mp q with rfl | q
      · exact no_empty
      · exact (kw.ws v (List.mem_cons_of_mem _ q)).no
    · rw [List.mem_singleton.mp q]; exact no_empty
  · rcases List.mem_append.mp hv with q | q
    · rcases List.mem_cons.mp q with rfl | q
      · exact wdQ_const.1
      · exact kw.wd v (List.mem_cons_of_mem _ q)
    · rw [List.mem_singleton.mp q]; exact wdQ_const.1
theorem RowK.a2 (k : RowK hd W) : BadR hd ((" " : Str) ++ Txt.join (" " : Str) W) := by
  obtain ⟨w, rest, rfl, kk⟩ := k.first
  have kw := k.words
  have ln := kw.ln
  rw [row_start (List.cons_ne_nil _ _)]
  refine ⟨bad_empty ?_, rowQ_of (fun v hv => ?_) (by rw [List.length_cons]; omega)⟩
  · unfold fw
    rw [split32 (List.cons_ne_nil _ _) fun v hv => ?_]
    · rfl
    · rcases List.mem_cons.mp hv with rfl | q
      · exact no_empty
      · exact (kw.ws v q).no
  · rcases List.mem_cons.mp hv with rfl | q
    · exact wdQ_const.1
    · exact kw.wd v q
theorem bad_blank : BadR hd ("" : Str) ∧ BadR hd (" " : Str) := by
  have f : fw (" " : Str) = ("" : Str) := by decide +kernel
  refine ⟨⟨bad_empty fw_empty, row_const.2.2.2.2.2.ln, row_const.2.2.2.2.2.asc, Nat.le_trans row_const.2.2.2.2.2.len (by decide)⟩, ⟨bad_empty f, ?_, asc_sp, by decide⟩⟩
  unfold NoLn
  rw [tl_blank.1]
  decide
end
section
variable {hd : Bool} {W : List Str} {w : Str} {rest : List Str}
theorem tl_upper {x : Str} (h : PySem.W.KSb.Asc x) : TL.tl (Txt.upper x) = (TL.tl x).map PyProof.Rows.up1 := by
  rw [PyProof.Rows.upper_ascii (x := x) h]
  show (x.cps.map PyProof.Rows.up1).toList = _
  rw [Array.toList_map]
  all_goals rfl
theorem up_sign : ∀ c, c < 128 → PyProof.Rows.up1 c < 128 ∧ (PyProof.Rows.up1 c = 10 → c = 10) := by decide
theorem key_sign : ∀ v ∈ [("store" : Str), ("lost" : Str), ("disk" : Str), ("note" : Str), ("end" : Str)], ((TL.tl v).head?.any fun c => decide (c ≠ 32) && decide (PyProof.Rows.up1 c ≠ 32) && decide (PyProof.Rows.up1 c ≠ 100 ∧ PyProof.Rows.up1 c ≠ 108 ∧ PyProof.Rows.up1 c ≠ 110 ∧ PyProof.Rows.up1 c ≠ 101 ∧ PyProof.Rows.up1 c ≠ 115)) = true := by decide +kernel
theorem RowK.key (k : RowK hd (w :: rest)) : w ∈ [("store" : Str), ("lost" : Str), ("disk" : Str), ("note" : Str), ("end" : Str)] := by
  obtain ⟨w', r, e, kk⟩ := k.first
  cases e
  rcases kk with ⟨_, h⟩ | ⟨_, h | h | h | h⟩ <;> rw [h] <;> simp
theorem row_tl (w : Str) (rest : List Str) : ∃ l, TL.tl (Txt.join (" " : Str) (w :: rest)) = TL.tl w ++ l := by
  rw [TL.join_eq, TL.tl_join]
  cases rest with
  | nil => exact ⟨[], (List.append_nil _).symm⟩
  | cons a r => exact ⟨_, rfl⟩
theorem RowK.own (k : RowK hd W) : RowQ (Txt.join (" " : Str) W) := rowQ_of k.words.wd (Nat.le_trans k.words.ln (by decide))
theorem RowK.a4 (k : RowK hd W) : BadR hd (Txt.upper (Txt.join (" " : Str) W)) := by
  obtain ⟨w, rest, rfl, kk⟩ := k.first
  have o := k.own
  have e := tl_upper o.asc
  refine ⟨fun dr _ => ?_, fun hc => ?_, fun c hc => ?_, ?_⟩
  · have ks := key_sign w k.key
    obtain ⟨l, el⟩ := row_tl w rest
    cases q : TL.tl w with
    | nil => rw [q] at ks; cases ks
    | cons c t =>
      rw [q] at ks el
      have ks : (decide (c ≠ 32) && decide (PyProof.Rows.up1 c ≠ 32) && decide (PyProof.Rows.up1 c ≠ 100 ∧ PyProof.Rows.up1 c ≠ 108 ∧ PyProof.Rows.up1 c ≠ 110 ∧ PyProof.Rows.up1 c ≠ 101 ∧ PyProof.Rows.up1 c ≠ 115)) = true := ks
      rw [Bool.and_eq_true, Bool.and_eq_true] at ks
      rw [el] at e
      exact put_sign e (of_decide_eq_true ks.1.2) (of_decide_eq_true ks.2)
  · rw [e] at hc
    obtain ⟨c, h1, h2⟩ := List.mem_map.mp hc
    exact o.ln ((up_sign c (o.asc c h1)).2 h2 ▸ h1)
  · have hc : c ∈ TL.tl (Txt.upper (Txt.join (" " : Str) (w :: rest))) := hc
    rw [e] at hc
    obtain ⟨d, h1, rfl⟩ := List.mem_map.mp hc
    exact (up_sign d (o.asc d h1)).1
  · rw [TL.len_tl, e, List.length_map, ← TL.len_tl]
    exact o.len
theorem x_facts : TL.tl ("x" : Str) = [120] ∧ TL.tl ("\t" : Str) = [9] ∧ TL.tl ("s" : Str) = [115] := by decide +kernel
theorem len_one : ("x" : Str).length = 1 ∧ ("\t" : Str).length = 1 ∧ ("s" : Str).length = 1 := by decide +kernel
theorem asc_one : PySem.W.KSb.Asc ("x" : Str) ∧ PySem.W.KSb.Asc ("\t" : Str) ∧ PySem.W.KSb.Asc ("s" : Str) := ⟨PySem.W.KSb.asc_of (by decide +kernel), PySem.W.KSb.asc_of (by decide +kernel), PySem.W.KSb.asc_of (by decide +kernel)⟩
theorem RowK.size (k : RowK hd W) : (Txt.join (" " : Str) W).length ≤ 900 := by
  have kw := k.words
  have j := join_le (" " : Str) W
  have s := sum_le kw.sh
  have h4 : (" " : Str).length = 1 := by decide
  rw [h4] at j
  have := kw.ln
  have : W.length * 34 ≤ 25 * 34 := Nat.mul_le_mul_right _ kw.ln
  omega
theorem RowK.a5 (k : RowK hd W) : BadR hd (("x" : Str) ++ Txt.join (" " : Str) W) := by
  have o := k.own
  have e : TL.tl (("x" : Str) ++ Txt.join (" " : Str) W) = 120 :: TL.tl (Txt.join (" " : Str) W) := by rw [TL.tl_append, x_facts.1]; rfl
  refine ⟨fun dr _ => put_sign e (by decide) (by decide), fun hc => ?_, PySem.W.KSb.asc_app asc_one.1 o.asc, ?_⟩
  · rw [e] at hc
    rcases List.mem_cons.mp hc with z | z
    · cases z
    · exact o.ln z
  · have := k.size
    rw [Str.length_append, len_one.1]
    omega
theorem tab_bad (v : Str) : numW (v ++ ("\t" : Str)) = none ∧ isB (v ++ ("\t" : Str)) = false ∧ (No32 v → No32 (v ++ ("\t" : Str))) := by
  have m : (9 : Nat) ∈ (v ++ ("\t" : Str)).cps.toList := by
    show (9 : Nat) ∈ TL.tl (v ++ ("\t" : Str))
    rw [TL.tl_append, x_facts.2.1]
    simp
  refine ⟨?_, ?_, fun h z => ?_⟩
  · unfold numW
    rw [if_neg]
    intro z
    have := digW_all z.2 9 m
    omega
  · cases q : isB (v ++ ("\t" : Str)) with
    | false => rfl
    | true =>
      by_cases e : v ++ ("\t" : Str) = ("-" : Str)
      · rw [e] at m
        exact absurd m (by decide +kernel)
      · have := isB_figs q e 9 m
        exact absurd this (by decide +kernel)
  · rw [TL.tl_append, x_facts.2.1] at z
    rcases List.mem_append.mp z with z | z
    · exact h z
    · exact absurd (List.mem_singleton.mp z) (by decide)
theorem join_tab (A : List Str) (v : Str) : Txt.join (" " : Str) (A ++ [v]) ++ ("\t" : Str) = Txt.join (" " : Str) (A ++ [v ++ ("\t" : Str)]) := by
  cases A with
  | nil => rfl
  | cons a r =>
    rw [join_snoc (List.cons_ne_nil a r), join_snoc (List.cons_ne_nil a r)]
    refine TL.ext_tl ?_
    simp only [TL.tl_append, List.append_assoc]
theorem lost_tab : fw (("lost" : Str) ++ ("\t" : Str)) = ("lost\t" : Str) ∧ ("lost\t" : Str) ≠ ("store" : Str) ∧ ("lost\t" : Str) ≠ ("disk" : Str) ∧ ("lost\t" : Str) ≠ ("lost" : Str) ∧ ("lost\t" : Str) ≠ ("note" : Str) ∧ ("lost\t" : Str) ≠ ("end" : Str) := by decide +kernel
theorem RowK.a6 (k : RowK hd W) : BadR hd (Txt.join (" " : Str) W ++ ("\t" : Str)) := by
  have o := k.own
  have sz := k.size
  obtain ⟨w, rest, rfl, kk⟩ := k.first
  have kw := k.words
  have kr := k.rest
  have m : RowQ (Txt.join (" " : Str) (w :: rest) ++ ("\t" : Str)) := by
    refine ⟨fun hc => ?_, PySem.W.KSb.asc_app o.asc asc_one.2.1, by rw [Str.length_append, len_one.2.1]; omega⟩
    rw [TL.tl_append, x_facts.2.1] at hc
    rcases List.mem_append.mp hc with z | z
    · exact o.ln z
    · exact absurd (List.mem_singleton.mp z) (by decide)
  refine ⟨?_, m⟩
  by_cases r0 : rest = []
  · have wl : w = ("lost" : Str) := by
      rcases kk with ⟨_, h⟩ | ⟨_, h | h | h | h⟩
      · have := kr.1 h; rw [r0] at this; cases this
      · exact h
      · have := kr.2.2.2.2 h; rw [r0] at this; cases this
      · have := kr.2.2.1 h; rw [r0] at this; cases this
      · have := kr.2.2.2.1 h; rw [r0] at this; cases this
    rw [r0, wl]
    have e : Txt.join (" " : Str) [("lost" : Str)] = ("lost" : Str) := by decide +kernel
    rw [e]
    obtain ⟨f, n1, n2, n3, n4, n5⟩ := lost_tab
    exact bad_other (by rw [f]; exact n1) (by rw [f]; exact n2) (by rw [f]; exact n3) (by rw [f]; exact n4) (by rw [f]; exact n5)
  · have er := List.dropLast_concat_getLast r0
    generalize rest.dropLast = A at er
    generalize rest.getLast r0 = v at er
    subst er
    rw [show w :: (A ++ [v]) = (w :: A) ++ [v] from rfl, join_tab]
    obtain ⟨t1, t2, t3⟩ := tab_bad v
    have nv := (kw.ws v (List.mem_cons_of_mem _ (List.mem_append_right _ (List.mem_singleton.mpr rfl)))).no
    refine bad_words kk (rest := A ++ [v ++ ("\t" : Str)]) (split32 (ws := w :: (A ++ [v ++ ("\t" : Str)])) (List.cons_ne_nil _ _) fun x hx => ?_) ⟨fun z => numsW_bad (List.mem_append_right _ (List.mem_singleton.mpr rfl)) t1, fun _ z => by simp at z, fun z => all_bad (List.mem_append_right _ (List.mem_singleton.mpr rfl)) t2, fun z => .inr (.inl ?_), fun z => numsW_bad (List.mem_append_right _ (List.mem_singleton.mpr rfl)) t1⟩
    · rcases List.mem_cons.mp hx with rfl | q
      · exact (kw.ws _ (List.mem_cons_self ..)).no
      rcases List.mem_append.mp q with q | q
      · exact (kw.ws x (List.mem_cons_of_mem _ (List.mem_append_left _ q))).no
      · rw [List.mem_singleton.mp q]; exact t3 nv
    · have l := kr.2.2.1 z
      rw [List.length_append] at l
      have l : A.length + 1 = 3 := l
      rw [List.getD_eq_getElem?_getD, List.getElem?_append_right (by omega), show 2 - A.length = 0 by omega]
      exact t2
theorem key_s : ∀ v ∈ [("store" : Str), ("lost" : Str), ("disk" : Str), ("note" : Str), ("end" : Str)], fw (v ++ ("s" : Str)) ≠ ("store" : Str) ∧ fw (v ++ ("s" : Str)) ≠ ("disk" : Str) ∧ fw (v ++ ("s" : Str)) ≠ ("lost" : Str) ∧ fw (v ++ ("s" : Str)) ≠ ("note" : Str) ∧ fw (v ++ ("s" : Str)) ≠ ("end" : Str) ∧ (10 : Nat) ∉ TL.tl (v ++ ("s" : Str)) ∧ ((v ++ ("s" : Str)).cps.toList.all fun c => decide (c < 128)) = true ∧ (v ++ ("s" : Str)).length ≤ 1200 := by decide +kernel
theorem RowK.a9 (k : RowK hd (w :: rest)) : BadR hd (w ++ ("s" : Str)) := by
  obtain ⟨n1, n2, n3, n4, n5, n6, n7, n8⟩ := key_s w k.key
  exact ⟨bad_other n1 n2 n3 n4 n5, n6, PySem.W.KSb.asc_of n7, n8⟩
end
section
variable {hd : Bool} {W : List Str} {w : Str} {rest : List Str}
theorem mem_set_of {A : List Str} {i : Nat} {x : Str} (h : i < A.length) : x ∈ A.set i x := List.mem_iff_getElem.mpr ⟨i, by rw [List.length_set]; exact h, by rw [List.getElem_set_self]⟩
theorem getD_setQ {A : List Str} {i : Nat} {x : Str} (h : i < A.length) : (A.set i x).getD i ("" : Str) = x := by
  rw [List.getD_eq_getElem?_getD, List.getElem?_set_self h]
  rfl
theorem RowK.b1 (k : RowK hd (w :: rest)) {i : Nat} {x : Str} (hx : x ∈ badB) (hi : i < rest.length) (hw : w = ("disk" : Str) ∨ (w = ("note" : Str) ∧ i = 2)) : BadR hd (Txt.join (" " : Str) ((w :: rest).set (1 + i) x)) := by
  obtain ⟨b1, b2, b3, b4, b5⟩ := badB_facts x hx
  have kw := k.words
  have kr := k.rest
  have ln := kw.ln
  rw [List.length_cons] at ln
  obtain ⟨n1, n2, n3, n4, n5, n6, n7, n8, n9, n10⟩ := keys_ne
  have ws : w ≠ ("store" : Str) := fun z => hw.elim (fun q => n2 (z.symm.trans q)) fun q => n3 (z.symm.trans q.1)
  have wl : w ≠ ("lost" : Str) := fun z => hw.elim (fun q => n5 (z.symm.trans q)) fun q => n6 (z.symm.trans q.1)
  have we : w ≠ ("end" : Str) := fun z => hw.elim (fun q => n9 (q.symm.trans z)) fun q => n10 (q.1.symm.trans z)
  rw [Nat.add_comm, List.set_cons_succ]
  rcases b5 with b5 | b5
  · subst b5
    rw [List.set_eq_take_append_cons_drop, if_pos hi, show w :: (rest.take i ++ ("1 34" : Str) :: rest.drop (i + 1)) = (w :: rest.take i) ++ ("1 34" : Str) :: rest.drop (i + 1) from rfl, join_two two_parts.1]
    have l : (rest.take i ++ ("1" : Str) :: ("34" : Str) :: rest.drop (i + 1)).length = rest.length + 1 := by
      rw [List.length_append, List.length_cons, List.length_cons, List.length_take, List.length_drop]
      omega
    refine k.bad (rest' := rest.take i ++ ("1" : Str) :: ("34" : Str) :: rest.drop (i + 1)) (fun v hv => ?_) (fun v hv => ?_) (by rw [l]; omega) ⟨fun z => absurd z ws, fun z => absurd z wl, fun z => all_bad (List.mem_append_right _ (List.mem_cons_self ..)) two_parts.2, fun z => .inl ?_, fun z => absurd z we⟩
    · rcases List.mem_append.mp hv with q | q
      · exact (kw.ws v (List.mem_cons_of_mem _ (List.mem_of_mem_take q))).no
      rcases List.mem_cons.mp q with rfl | q
      · unfold No32; decide +kernel
      rcases List.mem_cons.mp q with rfl | q
      · unfold No32; decide +kernel
      exact (kw.ws v (List.mem_cons_of_mem _ (List.mem_of_mem_drop q))).no
    · rcases List.mem_append.mp hv with q | q
      · exact kw.wd v (List.mem_cons_of_mem _ (List.mem_of_mem_take q))
      rcases List.mem_cons.mp q with rfl | q
      · exact wdQ_const.2.2.1
      rcases List.mem_cons.mp q with rfl | q
      · exact wdQ_const.2.2.2
      exact kw.wd v (List.mem_cons_of_mem _ (List.mem_of_mem_drop q))
    · rw [l, kr.2.2.1 z]; decide
  · refine k.bad (rest' := rest.set i x) (fun v hv => ?_) (fun v hv => ?_) (by rw [List.length_set]; omega) ⟨fun z => absurd z ws, fun z => absurd z wl, fun z => all_bad (mem_set_of hi) b1, fun z => .inr (.inl ?_), fun z => absurd z we⟩
    · rcases List.mem_or_eq_of_mem_set hv with q | q
      · exact (kw.ws v (List.mem_cons_of_mem _ q)).no
      · rw [q]; exact b5
    · rcases List.mem_or_eq_of_mem_set hv with q | q
      · exact kw.wd v (List.mem_cons_of_mem _ q)
      · rw [q]; exact wdQ_of b3 b4 (by omega)
    · rcases hw with q | ⟨_, q⟩
      · exact absurd (q.symm.trans z) n8
      · subst q
        rw [getD_setQ hi]
        exact b1
theorem disks_bad : ∀ x ∈ badB, fw (("disks " : Str) ++ x) ≠ ("store" : Str) ∧ fw (("disks " : Str) ++ x) ≠ ("disk" : Str) ∧ fw (("disks " : Str) ++ x) ≠ ("lost" : Str) ∧ fw (("disks " : Str) ++ x) ≠ ("note" : Str) ∧ fw (("disks " : Str) ++ x) ≠ ("end" : Str) ∧ (10 : Nat) ∉ TL.tl (("disks " : Str) ++ x) ∧ ((("disks " : Str) ++ x).cps.toList.all fun c => decide (c < 128)) = true ∧ (("disks " : Str) ++ x).length ≤ 1200 := by decide +kernel
theorem bad_b2 {x : Str} (hx : x ∈ badB) : BadR hd (("disks " : Str) ++ x) := by
  obtain ⟨n1, n2, n3, n4, n5, n6, n7, n8⟩ := disks_bad x hx
  exact ⟨bad_other n1 n2 n3 n4 n5, n6, PySem.W.KSb.asc_of n7, n8⟩
theorem disk_blank : ("disk " : Str) = Txt.join (" " : Str) [("disk" : Str), ("" : Str)] := by decide +kernel
theorem RowK.b3 (k : RowK hd (w :: rest)) (hw : w = ("disk" : Str)) : BadR hd ("disk " : Str) := by
  subst hw
  obtain ⟨n1, n2, n3, n4, n5, n6, n7, n8, n9, n10⟩ := keys_ne
  rw [disk_blank]
  exact k.bad (rest' := [("" : Str)]) (fun v hv => by rw [List.mem_singleton.mp hv]; exact no_empty) (fun v hv => by rw [List.mem_singleton.mp hv]; exact wdQ_const.1) (by decide) ⟨fun z => absurd z.symm n2, fun z => absurd z.symm n5, fun z => all_bad (List.mem_singleton.mpr rfl) empty_bad.2, fun z => absurd z n8, fun z => absurd z n9⟩
theorem RowK.less (k : RowK hd (w :: rest)) {n : Nat} (hn : n < rest.length) (hw : w ≠ ("disk" : Str)) : BadR hd (Txt.join (" " : Str) ((w :: rest).take (n + 1))) := by
  have kw := k.words
  have kr := k.rest
  have ln := kw.ln
  rw [List.length_cons] at ln
  rw [List.take_succ_cons]
  have l : (rest.take n).length = n := by rw [List.length_take]; omega
  refine k.bad (rest' := rest.take n) (fun v hv => (kw.ws v (List.mem_cons_of_mem _ (List.mem_of_mem_take hv))).no) (fun v hv => kw.wd v (List.mem_cons_of_mem _ (List.mem_of_mem_take hv))) (by rw [l]; omega) ⟨fun z => numsW_len (by rw [l]; have := kr.1 z; omega), fun z => ?_, fun z => absurd z hw, fun z => .inl (by rw [l]; have := kr.2.2.1 z; omega), fun z => numsW_len (by rw [l]; have := kr.2.2.2.1 z; omega)⟩
  rw [kr.2.1 z] at hn
  exact absurd hn (Nat.not_lt_zero _)
theorem RowK.d1 (k : RowK hd (w :: rest)) {i : Nat} {x : Str} (hx : x ∈ badN) (hi : i < rest.length) (hw : w ≠ ("disk" : Str)) (hn : w = ("note" : Str) → i < 2) : BadR hd (Txt.join (" " : Str) ((w :: rest).set (1 + i) x)) := by
  obtain ⟨b1, b2, b3, b4, b5⟩ := badN_facts x hx
  have kw := k.words
  have kr := k.rest
  have ln := kw.ln
  rw [List.length_cons] at ln
  rw [Nat.add_comm, List.set_cons_succ]
  refine k.bad (rest' := rest.set i x) (fun v hv => ?_) (fun v hv => ?_) (by rw [List.length_set]; omega) ⟨fun z => numsW_bad (mem_set_of hi) b1, fun z => ?_, fun z => absurd z hw, fun z => .inr (.inr (numsW_bad (w := x) ?_ b1)), fun z => numsW_bad (mem_set_of hi) b1⟩
  · rcases List.mem_or_eq_of_mem_set hv with q | q
    · exact (kw.ws v (List.mem_cons_of_mem _ q)).no
    · rw [q]; exact b5
  · rcases List.mem_or_eq_of_mem_set hv with q | q
    · exact kw.wd v (List.mem_cons_of_mem _ q)
    · rw [q]; exact wdQ_of b3 b4 (by omega)
  · rw [kr.2.1 z] at hi
    exact absurd hi (Nat.not_lt_zero _)
  · have i2 := hn z
    refine List.mem_of_getElem? (i := i) ?_
    rw [List.getElem?_take_of_lt i2, List.getElem?_set_self hi]
end
theorem cat_more (r : Str) : r ++ (" 00" : Str) = r ++ (" " : Str) ++ ("00" : Str) ∧ r ++ (" 1" : Str) = r ++ (" " : Str) ++ ("1" : Str) := by
  have e1 : TL.tl (" 00" : Str) = TL.tl (" " : Str) ++ TL.tl ("00" : Str) := by decide +kernel
  have e2 : TL.tl (" 1" : Str) = TL.tl (" " : Str) ++ TL.tl ("1" : Str) := by decide +kernel
  refine ⟨TL.ext_tl ?_, TL.ext_tl ?_⟩
  · rw [TL.tl_append, TL.tl_append, TL.tl_append, e1, List.append_assoc]
  · rw [TL.tl_append, TL.tl_append, TL.tl_append, e2, List.append_assoc]
theorem no_more : No32 ("00" : Str) ∧ No32 ("1" : Str) := by
  unfold No32
  decide +kernel
structure MadeR (rows made : List Str) (due : Nat) : Prop where
  len : made.length = rows.length
  le : due ≤ rows.length
  same : ∀ i, i < due → made[i]? = rows[i]?
  bad : due < rows.length → ∃ r, made[due]? = some r ∧ BadR (decide (due = 0)) r
  ok : ∀ r ∈ made, RowQ r
theorem MadeR.put {rows made : List Str} {due at' : Nat} (h : MadeR rows made due) (ha : at' < rows.length) {r : Str} (b : BadR (decide (at' = 0)) r) : MadeR rows (made.set at' r) (min due at') := by
  obtain ⟨h1, h2, h3, h4, h5⟩ := h
  refine ⟨by rw [List.length_set]; exact h1, by omega, fun i hi => ?_, fun _ => ?_, fun x hx => ?_⟩
  · rw [List.getElem?_set_ne (by omega)]
    exact h3 i (by omega)
  · by_cases q : at' ≤ due
    · rw [Nat.min_eq_right q]
      exact ⟨r, List.getElem?_set_self (by omega), b⟩
    · rw [Nat.min_eq_left (by omega)]
      obtain ⟨x, e, bx⟩ := h4 (by omega)
      exact ⟨x, by rw [List.getElem?_set_ne (by omega)]; exact e, bx⟩
  · rcases List.mem_or_eq_of_mem_set hx with q | q
    · exact h5 x q
    · rw [q]; exact b.m
theorem MadeR.read {s : Store} (g : GoodS s) {made : List Str} {due : Nat} (h : MadeR (rowsT s) made due) (hd : due < (rowsT s).length) : readR (Txt.join ("\n" : Str) made) = .inl due := by
  obtain ⟨r, er, b⟩ := h.bad hd
  have l := h.len
  have ne : made ≠ [] := fun z => by
    rw [z] at l
    have l : 0 = (rowsT s).length := l
    omega
  have e : made = (rowsT s).take due ++ r :: made.drop (due + 1) := by
    have e1 : made.take due = (rowsT s).take due := List.ext_getElem? fun i => by
      by_cases hi : i < due
      · rw [List.getElem?_take_of_lt hi, List.getElem?_take_of_lt hi, h.same i hi]
      · rw [List.getElem?_eq_none (by rw [List.length_take]; omega), List.getElem?_eq_none (by rw [List.length_take]; omega)]
    rw [← e1, ← drop_cons er, List.take_append_drop]
  refine read_bad ne (fun x hx => (h.ok x hx).ln) ?_
  rw [e]
  by_cases z : due = 0
  · subst z
    rw [List.take_zero, List.nil_append, run_at rfl, b.p dr0 ⟨fun _ => rfl, fun _ => rfl⟩]
  · obtain ⟨dr, e2, hh, _, _⟩ := g.pre (n := due) (by omega) (by omega)
    rw [e2, run_at rfl, b.p dr ⟨fun q => (by rw [hh] at q; cases q), fun q => (by rw [decide_eq_false z] at q; cases q)⟩]
theorem GoodS.kind {s : Store} (g : GoodS s) {i : Nat} {r : Str} (h : (rowsT s)[i]? = some r) : ∃ W, r = Txt.join (" " : Str) W ∧ RowK (decide (i = 0)) W := by
  have z1 := g.ok.head.size1
  have z2 := g.ok.head.size2
  have r1 := g.ok.head.rows1
  have r2 := g.ok.head.rows2
  cases i with
  | zero =>
    have h : some (headT s.head) = some r := h
    cases h
    exact ⟨_, head_ws _, .head rfl g.hb⟩
  | succ i =>
    have h : (s.disks.map diskT ++ s.journal.map noteT)[i]? = some r := h
    have hm := List.mem_of_getElem? h
    rw [decide_eq_false (by omega)]
    rcases List.mem_append.mp hm with q | q
    · obtain ⟨k, hk, rfl⟩ := List.mem_map.mp q
      cases k with
      | none => exact ⟨[("lost" : Str)], by show ("lost" : Str) = _; decide +kernel, .lost⟩
      | some bs =>
        have d := dskG_ok z1 z2 r1 r2 (g.ok.disks _ hk)
        obtain ⟨d1, _, d3⟩ := d bs rfl
        have l : bs.length = s.head.rows := (g.ok.disks _ hk bs rfl).1
        exact ⟨("disk" : Str) :: bs.map oT, rfl, .disk ⟨d1, by omega⟩ d3⟩
    · obtain ⟨n, hn, rfl⟩ := List.mem_map.mp q
      have gn := g.hn n hn
      have no := nt_okS g.ok.s (by have := g.jl; omega) n hn
      cases n with
      | block d r b =>
        obtain ⟨g1, g2, g3, g4⟩ := gn
        exact ⟨ntWs (.blk [d, r] (some b)), rfl, .note ⟨rfl, fun x hx => by
          simp only [List.mem_cons, List.not_mem_nil, or_false] at hx
          rcases hx with rfl | rfl <;> assumption, fun c e => by cases e; exact ⟨g3, by have := no.2.2.1; omega, g4⟩⟩⟩
      | fin a w m =>
        obtain ⟨g1, g2, g3⟩ := gn
        exact ⟨ntWs (.fin [a, w, m]), rfl, .fin ⟨rfl, fun x hx => by
          simp only [List.mem_cons, List.not_mem_nil, or_false] at hx
          rcases hx with rfl | rfl | rfl <;> assumption⟩⟩
theorem MadeR.size {rows made : List Str} {due : Nat} (h : MadeR rows made due) (l : rows.length ≤ 30) : (made.map (·.length)).sum + made.length * ("\n" : Str).length ≤ 40000 ∧ (Txt.join ("\n" : Str) made).length ≤ 50000 ∧ PySem.W.KSb.Asc (Txt.join ("\n" : Str) made) := by
  have h2 := sum_le (ys := made) (B := 1200) fun y hy => (h.ok y hy).len
  have h3 : ("\n" : Str).length = 1 := by decide
  have m := h.len
  have j := join_le ("\n" : Str) made
  rw [h3] at j ⊢
  exact ⟨by omega, by omega, asc_join' (PySem.W.KSb.asc_of (by decide +kernel)) fun y hy => (h.ok y hy).asc⟩
end Law
namespace Law
open PySem L2 HC PyProof.Rows
def lay (k n : Nat) : Nat × Nat := (n / k, n % k)
def Store.spotN (s : Store) (n : Nat) : Nat × Nat := if n / (s.head.width + 1 - s.head.par) < s.head.moved then lay (s.head.width + 1 - s.head.par) n else lay (s.head.width - s.head.par) n
end Law
namespace GF
def xt (a : Nat) : Nat := (a * 2) ^^^ (if a.testBit 7 then 285 else 0)
def G : Nat → Nat → Nat → Nat
  | 0, _, _ => 0
  | n + 1, a, b => (if b.testBit 0 then a else 0) ^^^ G n (xt a) (b / 2)
abbrev gt (a b : Nat) : Nat := G 8 a b
def Lin (f : Nat → Nat) : Prop := ∀ x y, f (x ^^^ y) = f x ^^^ f y
theorem Lin.zero {f : Nat → Nat} (h : Lin f) : f 0 = 0 := by
  have := h 0 0
  rw [Nat.xor_self, Nat.xor_self] at this
  exact this
theorem Lin.comp {f g : Nat → Nat} (h : Lin f) (k : Lin g) : Lin fun x => f (g x) := fun x y => by
  show f (g (x ^^^ y)) = _
  rw [k, h]
theorem half_xor (x y : Nat) : (x ^^^ y) / 2 = x / 2 ^^^ y / 2 := by
  apply Nat.eq_of_testBit_eq; intro i
  simp [Nat.testBit_xor, Nat.testBit_div_two]
theorem twice_xor (x y : Nat) : (x ^^^ y) * 2 = x * 2 ^^^ y * 2 := by
  apply Nat.eq_of_testBit_eq; intro i
  cases i with
  | zero => simp [Nat.testBit_xor, Nat.testBit_zero, Nat.mul_mod_left]
  | succ n => rw [Nat.testBit_xor, Nat.testBit_succ, Nat.testBit_succ, Nat.testBit_succ, Nat.mul_div_cancel _ (by decide), Nat.mul_div_cancel _ (by decide), Nat.mul_div_cancel _ (by decide), Nat.testBit_xor]
theorem xor4 (a b c d : Nat) : (a ^^^ b) ^^^ (c ^^^ d) = (a ^^^ c) ^^^ (b ^^^ d) := by
  apply Nat.eq_of_testBit_eq; intro i
  simp only [Nat.testBit_xor]
  cases a.testBit i <;> cases b.testBit i <;> cases c.testBit i <;> cases d.testBit i <;> rfl
theorem bit_lin (k c : Nat) : Lin fun x => if x.testBit k then c else 0 := by
  intro x y
  simp only [Nat.testBit_xor]
  cases x.testBit k <;> cases y.testBit k <;> simp
theorem Lin.add {f g : Nat → Nat} (h : Lin f) (k : Lin g) : Lin fun x => f x ^^^ g x := fun x y => by
  show f (x ^^^ y) ^^^ g (x ^^^ y) = _
  rw [h, k, xor4]
theorem Lin.nil : Lin fun _ => 0 := fun _ _ => (Nat.xor_self 0).symm
theorem lin_xt : Lin xt := Lin.add (f := fun x => x * 2) twice_xor (bit_lin 7 285)
theorem lin_Ga : ∀ n b, Lin fun a => G n a b
  | 0, b => Lin.nil
  | n + 1, b => Lin.add (f := fun a => if b.testBit 0 then a else 0) (by
    cases b.testBit 0 with
    | false => exact Lin.nil
    | true => exact fun _ _ => rfl) (Lin.comp (lin_Ga n (b / 2)) lin_xt)
theorem lin_Gb : ∀ n a, Lin (G n a)
  | 0, a => Lin.nil
  | n + 1, a => Lin.add (bit_lin 0 a) (Lin.comp (lin_Gb n (xt a)) half_xor)
theorem lin_ext {f g : Nat → Nat} (hf : Lin f) (hg : Lin g) : ∀ n, (∀ j, j < n → f (2 ^ j) = g (2 ^ j)) → ∀ a, a < 2 ^ n → f a = g a
  | 0, _, a, h => by
    have : a = 0 := by simpa using h
    rw [this, hf.zero, hg.zero]
  | n + 1, hb, a, h => by
    have ih := lin_ext hf hg n fun j hj => hb j (by omega)
    by_cases hl : a < 2 ^ n
    · exact ih a hl
    · have hx : a ^^^ 2 ^ n < 2 ^ n := by
        apply Nat.lt_pow_two_of_testBit
        intro i hi
        rw [Nat.testBit_xor, Nat.testBit_two_pow]
        by_cases e : n = i
        · subst e
          have : a.testBit n = true := by
            rw [Nat.testBit_eq_decide_div_mod_eq]
            have h1 : a / 2 ^ n = 1 := by
              have hp : 0 < 2 ^ n := Nat.pow_pos (by decide)
              rw [Nat.div_eq_iff hp]
              rw [Nat.pow_succ] at h
              omega
            rw [h1]; rfl
          rw [this]; simp
        · have : a.testBit i = false := Nat.testBit_lt_two_pow (Nat.lt_of_lt_of_le h (Nat.pow_le_pow_right (by decide) (by omega)))
          rw [this]; simp [e]
      have e : a = (a ^^^ 2 ^ n) ^^^ 2 ^ n := by rw [Nat.xor_assoc, Nat.xor_self, Nat.xor_zero]
      rw [e, hf, hg, ih _ hx, hb n (by omega)]
theorem ext8 {f g : Nat → Nat} (hf : Lin f) (hg : Lin g) (h : ∀ j, j < 8 → f (2 ^ j) = g (2 ^ j)) {a : Nat} (ha : a < 256) : f a = g a := lin_ext hf hg 8 h a ha
theorem xor8 {a b : Nat} (ha : a < 256) (hb : b < 256) : a ^^^ b < 256 := Nat.xor_lt_two_pow (n := 8) ha hb
theorem xt_lt : ∀ {a : Nat}, a < 256 → xt a < 256 := fun {a} h => (by decide +kernel : ∀ a : Fin 256, xt a.val < 256) ⟨a, h⟩
theorem G_lt : ∀ n {a : Nat} b, a < 256 → G n a b < 256
  | 0, _, _, _ => by simp [G]
  | n + 1, a, b, h => by
    refine xor8 ?_ (G_lt n _ (xt_lt h))
    split <;> omega
theorem gt_lt {a : Nat} (b : Nat) (h : a < 256) : gt a b < 256 := G_lt 8 b h
theorem gt_comm {a b : Nat} (ha : a < 256) (hb : b < 256) : gt a b = gt b a := by
  refine ext8 (f := fun a => gt a b) (g := fun a => gt b a) (lin_Ga 8 b) (lin_Gb 8 b) (fun j hj => ?_) ha
  refine ext8 (f := fun b => gt (2 ^ j) b) (g := fun b => gt b (2 ^ j)) (lin_Gb 8 _) (lin_Ga 8 _) (fun k hk => ?_) hb
  exact (by decide +kernel : ∀ j k : Fin 8, gt (2 ^ j.val) (2 ^ k.val) = gt (2 ^ k.val) (2 ^ j.val)) ⟨j, hj⟩ ⟨k, hk⟩
theorem gt_assoc {a b c : Nat} (ha : a < 256) (hb : b < 256) (hc : c < 256) : gt a (gt b c) = gt (gt a b) c := by
  refine ext8 (f := fun a => gt a (gt b c)) (g := fun a => gt (gt a b) c) (lin_Ga 8 _) (Lin.comp (f := fun x => gt x c) (lin_Ga 8 c) (lin_Ga 8 b)) (fun i hi => ?_) ha
  refine ext8 (f := fun b => gt (2 ^ i) (gt b c)) (g := fun b => gt (gt (2 ^ i) b) c) (Lin.comp (f := gt (2 ^ i)) (lin_Gb 8 _) (lin_Ga 8 c)) (Lin.comp (f := fun x => gt x c) (lin_Ga 8 c) (lin_Gb 8 _)) (fun j hj => ?_) hb
  refine ext8 (f := fun c => gt (2 ^ i) (gt (2 ^ j) c)) (g := fun c => gt (gt (2 ^ i) (2 ^ j)) c) (Lin.comp (f := gt (2 ^ i)) (lin_Gb 8 _) (lin_Gb 8 _)) (lin_Gb 8 _) (fun k hk => ?_) hc
  exact (by decide +kernel : ∀ i j k : Fin 8, gt (2 ^ i.val) (gt (2 ^ j.val) (2 ^ k.val)) = gt (gt (2 ^ i.val) (2 ^ j.val)) (2 ^ k.val)) ⟨i, hi⟩ ⟨j, hj⟩ ⟨k, hk⟩
theorem one_gt {a : Nat} (ha : a < 256) : gt 1 a = a :=
  ext8 (f := gt 1) (g := fun x => x) (lin_Gb 8 1) (fun _ _ => rfl) (fun j hj => (by decide +kernel : ∀ j : Fin 8, gt 1 (2 ^ j.val) = 2 ^ j.val) ⟨j, hj⟩) ha
theorem gt_one {a : Nat} (ha : a < 256) : gt a 1 = a := by rw [gt_comm ha (by decide), one_gt ha]
theorem gt_zero (a : Nat) : gt a 0 = 0 := (lin_Gb 8 a).zero
theorem zero_gt (a : Nat) : gt 0 a = 0 := (lin_Ga 8 a).zero
def inn (a b j : Nat) : Nat → Nat
  | 0 => 0
  | k + 1 => inn a b j k ^^^ (if a.testBit j then (if b.testBit k then 2 ^ (j + k) else 0) else 0)
def out (a b : Nat) : Nat → Nat
  | 0 => 0
  | j + 1 => out a b j ^^^ inn a b j 8
def invS : Nat → Nat → Nat × Nat
  | 0, a => (gt a a, gt a a)
  | n + 1, a => (gt (invS n a).1 (invS n a).1, gt (invS n a).2 (gt (invS n a).1 (invS n a).1))
def inv (a : Nat) : Nat := (invS 6 a).2
theorem invS_lt {a : Nat} (h : a < 256) : ∀ n, (invS n a).1 < 256 ∧ (invS n a).2 < 256
  | 0 => ⟨gt_lt _ h, gt_lt _ h⟩
  | n + 1 => ⟨gt_lt _ (invS_lt h n).1, gt_lt _ (invS_lt h n).2⟩
theorem inv_lt {a : Nat} (h : a < 256) : inv a < 256 := (invS_lt h 6).2
def invQ : Nat → Nat → Nat → Nat
  | 0, _, i => i
  | n + 1, s, i => (fun q => invQ n q (gt i q)) (gt s s)
def invF (a : Nat) : Nat := (fun q => invQ 6 q q) (gt a a)
theorem invQ_eq : ∀ n m a, invQ n (invS m a).1 (invS m a).2 = (invS (m + n) a).2
  | 0, m, a => rfl
  | n + 1, m, a => by
    show invQ n (gt (invS m a).1 (invS m a).1) (gt (invS m a).2 (gt (invS m a).1 (invS m a).1)) = _
    have := invQ_eq n (m + 1) a
    rw [show m + 1 + n = m + (n + 1) by omega] at this
    exact this
theorem invF_eq (a : Nat) : invF a = inv a := by
  have := invQ_eq 6 0 a
  exact this
set_option maxRecDepth 100000 in
theorem inv_chk : ∀ a : Fin 256, a.val ≠ 0 → gt a.val (invF a.val) = 1 := by decide +kernel
theorem gt_inv {a : Nat} (h : a < 256) (h0 : a ≠ 0) : gt a (inv a) = 1 := by rw [← invF_eq]; exact inv_chk ⟨a, h⟩ h0
theorem gt_cancel {a x y : Nat} (h : a < 256) (h0 : a ≠ 0) (hx : x < 256) (hy : y < 256) (e : gt a x = gt a y) : x = y := by
  have h1 : gt (inv a) (gt a x) = gt (inv a) (gt a y) := by rw [e]
  rw [gt_assoc (inv_lt h) h hx, gt_assoc (inv_lt h) h hy, gt_comm (inv_lt h) h, gt_inv h h0, one_gt hx, one_gt hy] at h1
  exact h1
theorem gt_ne {a b : Nat} (ha : a < 256) (hb : b < 256) (h : a ≠ 0) (k : b ≠ 0) : gt a b ≠ 0 := fun e => k (gt_cancel ha h hb (by decide) (e.trans (gt_zero a).symm))
def gp (s : Nat) : Nat → Nat
  | 0 => 1
  | k + 1 => gt (gp s k) s
abbrev pw (k : Nat) : Nat := gp 2 k
theorem gp_lt (s : Nat) : ∀ k, gp s k < 256
  | 0 => show 1 < 256 by decide
  | k + 1 => gt_lt _ (gp_lt s k)
theorem gp_add {s : Nat} (hs : s < 256) (m : Nat) : ∀ n, gp s (m + n) = gt (gp s m) (gp s n)
  | 0 => (gt_one (gp_lt s m)).symm
  | n + 1 => by
    show gt (gp s (m + n)) s = gt (gp s m) (gt (gp s n) s)
    rw [gp_add hs m n, gt_assoc (gp_lt s m) (gp_lt s n) hs]
def noOne : Nat → Nat → Bool
  | 0, _ => true
  | n + 1, p => p != 1 && noOne n (gt p 2)
theorem noOne_pw : ∀ n k, noOne n (pw k) = true → ∀ i, i < n → pw (k + i) ≠ 1
  | 0, _, _, i, h => by omega
  | n + 1, k, h, i, hi => by
    simp only [noOne, Bool.and_eq_true, bne_iff_ne] at h
    cases i with
    | zero => exact h.1
    | succ i =>
      have := noOne_pw n (k + 1) h.2 i (by omega)
      rw [show k + 1 + i = k + (i + 1) by omega] at this
      exact this
theorem pw_ne_one {d : Nat} (h0 : 0 < d) (h : d < 255) : pw d ≠ 1 := by
  have c : noOne 254 (pw 1) = true := by decide +kernel
  have := noOne_pw 254 1 c (d - 1) (by omega)
  rw [show 1 + (d - 1) = d by omega] at this
  exact this
theorem pw_ne0 : ∀ k, pw k ≠ 0
  | 0 => by decide
  | k + 1 => gt_ne (gp_lt 2 k) (by decide) (pw_ne0 k) (by decide)
theorem pw_lt_ne {i j : Nat} (h : i < j) (hj : j < 255) : pw i ≠ pw j := fun e => by
  refine pw_ne_one (d := j - i) (by omega) (by omega) ?_
  refine gt_cancel (gp_lt 2 i) (pw_ne0 i) (gp_lt 2 _) (by decide) ?_
  show gt (pw i) (pw (j - i)) = gt (pw i) 1
  rw [← gp_add (by decide), show i + (j - i) = j by omega, gt_one (gp_lt 2 i)]
  exact e.symm
theorem pw_inj {i j : Nat} (hi : i < 255) (hj : j < 255) (h : i ≠ j) : pw i ≠ pw j := by
  rcases Nat.lt_or_gt_of_ne h with h | h
  · exact pw_lt_ne h hj
  · exact fun e => pw_lt_ne h hi e.symm
end GF
namespace Law
open PySem L2 HC PyProof.Rows
def xorB (a b : Blk) : Blk := a.zipWith (fun x y => x ^^^ y) b
def mulB (c : Nat) (b : Blk) : Blk := b.map (GF.gt c)
def zeroB (n : Nat) : Blk := List.replicate n 0
def sumB (n : Nat) (bs : List Blk) : Blk := bs.foldl xorB (zeroB n)
def turnB (bs : List Blk) : List Blk := (List.range bs.length).map fun i => mulB (GF.pw i) (bs.getD i [])
def parB (p n : Nat) (bs : List Blk) : List Blk := if p = 1 then [sumB n bs] else [sumB n bs, sumB n (turnB bs)]
def WfR (n : Nat) (bs : List Blk) : Prop := ∀ b ∈ bs, BlkOk' b n
theorem xorB_len {a b : Blk} : (xorB a b).length = min a.length b.length := by simp [xorB]
theorem xorB_wf {n : Nat} {a b : Blk} (ha : BlkOk' a n) (hb : BlkOk' b n) : BlkOk' (xorB a b) n := by
  refine ⟨by rw [xorB_len, ha.1, hb.1]; omega, fun x hx => ?_⟩
  obtain ⟨i, hi, e⟩ := List.mem_iff_getElem.mp hx
  unfold xorB at e hi
  rw [List.getElem_zipWith] at e
  subst e
  simp at hi
  exact GF.xor8 (ha.2 _ (List.getElem_mem _)) (hb.2 _ (List.getElem_mem _))
theorem mulB_wf {n c : Nat} {b : Blk} (hc : c < 256) (hb : BlkOk' b n) : BlkOk' (mulB c b) n := by
  refine ⟨by simp [mulB, hb.1], fun x hx => ?_⟩
  obtain ⟨y, hy, rfl⟩ := List.mem_map.mp hx
  exact GF.gt_lt y hc
theorem zeroB_wf {n : Nat} : BlkOk' (zeroB n) n := ⟨by simp [zeroB], fun x hx => by rw [(List.mem_replicate.mp hx).2]; decide⟩
theorem foldB_wf {n : Nat} : ∀ {bs : List Blk} {z : Blk}, BlkOk' z n → WfR n bs → BlkOk' (bs.foldl xorB z) n
  | [], _, h, _ => h
  | b :: bs, z, h, hb => foldB_wf (bs := bs) (xorB_wf h (hb b (by simp))) fun c hc => hb c (by simp [hc])
theorem sumB_wf {n : Nat} {bs : List Blk} (h : WfR n bs) : BlkOk' (sumB n bs) n := foldB_wf zeroB_wf h
theorem turnB_wf {n : Nat} {bs : List Blk} (h : WfR n bs) : WfR n (turnB bs) := fun b hb => by
  obtain ⟨i, hi, rfl⟩ := List.mem_map.mp hb
  have hi : i < bs.length := List.mem_range.mp hi
  refine mulB_wf (GF.gp_lt 2 i) (h _ ?_)
  rw [List.getD_eq_getElem?_getD, List.getElem?_eq_getElem hi]
  exact List.getElem_mem hi
theorem turnB_len {bs : List Blk} : (turnB bs).length = bs.length := by simp [turnB]
theorem parB_len {p n : Nat} {bs : List Blk} (h1 : 1 ≤ p) (h2 : p ≤ 2) : (parB p n bs).length = p := by
  unfold parB
  split <;> simp <;> omega
theorem mulB_xor (c : Nat) : ∀ (a b : Blk), mulB c (xorB a b) = xorB (mulB c a) (mulB c b)
  | [], b => by simp [xorB, mulB]
  | x :: a, [] => by simp [xorB, mulB]
  | x :: a, y :: b => by
    have := mulB_xor c a b
    simp only [xorB, mulB, List.zipWith_cons_cons, List.map_cons, List.cons.injEq] at this ⊢
    exact ⟨GF.lin_Gb 8 c x y, this⟩
theorem zero_xor (n : Nat) : xorB (zeroB n) (zeroB n) = zeroB n := by
  simp [xorB, zeroB]
theorem getD_mem {bs : List Blk} {i : Nat} (h : i < bs.length) : bs.getD i [] ∈ bs := by
  rw [List.getD_eq_getElem?_getD, List.getElem?_eq_getElem h]
  exact List.getElem_mem h
def RowD (d : Dv) (xs : List Dv) : Prop := d = .tup xs ∨ d = .rol xs
theorem RowD.items {d : Dv} {xs : List Dv} (h : RowD d xs) (M : Ms) : itemsA d M = some xs := by
  rcases h with rfl | rfl <;> rfl
theorem xorB_getD {a b : Blk} {j : Nat} (ha : j < a.length) (hb : j < b.length) : (xorB a b).getD j 0 = a.getD j 0 ^^^ b.getD j 0 := by
  simp [xorB, List.getD, ha, hb, List.getElem?_zipWith]
theorem mulB_getD {c : Nat} {b : Blk} {j : Nat} (hb : j < b.length) : (mulB c b).getD j 0 = GF.gt c (b.getD j 0) := by
  simp [mulB, List.getD, hb]
def RowM (d : Dv) (xs : List Dv) (M : Ms) : Prop := d = .tup xs ∨ d = .rol xs ∨ ∃ r, d = .ref r ∧ M r = some (.lst xs)
theorem RowM.items {d : Dv} {xs : List Dv} {M : Ms} (h : RowM d xs M) : itemsA d M = some xs := by
  rcases h with rfl | rfl | ⟨r, rfl, h⟩
  · rfl
  · rfl
  · exact itemsA_l h
theorem RowM.sub {d : Dv} {xs : List Dv} {M M' : Ms} (h : RowM d xs M) (s : Sub M M') : RowM d xs M' := by
  rcases h with rfl | rfl | ⟨r, rfl, h⟩
  · exact .inl rfl
  · exact .inr (.inl rfl)
  · exact .inr (.inr ⟨r, rfl, s _ _ h⟩)
open Classical in
noncomputable def lg (b : Nat) : Nat := if h : ∃ k, k < 255 ∧ GF.pw k = b then Classical.choose h else 0
end Law
namespace Law
open PySem L2 HC PyProof.Rows
end Law
namespace Law
open PySem L2 HC PyProof.Rows
theorem mdel_mup_ne {M : Ms} {a b : Addr} {c : Cell} (h : b ≠ a) : mdel (mup M b c) a = mup (mdel M a) b c := by
  funext x
  by_cases e : x = a
  · subst e
    rw [mdel_same, mup_ne h.symm, mdel_same]
  · rw [mdel_ne e]
    by_cases e2 : x = b
    · subst e2; rw [mup_same, mup_same]
    · rw [mup_ne e2, mup_ne e2, mdel_ne e]
def Grow2 (M : Ms) (r t : Addr) (M' : Ms) : Prop := Sub M (mdel (mdel M' r) t)
theorem Grow2.r {M M' : Ms} {r t : Addr} {c : Cell} (h : Grow2 M r t M') : Grow2 M r t (mup M' r c) := by
  unfold Grow2; rw [mdel_put]; exact h
theorem Grow2.t {M M' : Ms} {r t : Addr} {c : Cell} (h : Grow2 M r t M') (ne : t ≠ r) : Grow2 M r t (mup M' t c) := by
  unfold Grow2; rw [mdel_mup_ne ne, mdel_put]; exact h
theorem Grow2.sub {M M' : Ms} {r t : Addr} (h : Grow2 M r t M') : Sub M M' := (h.trans mdel_sub).trans mdel_sub
theorem Grow2.new {M : Ms} {r t : Addr} {c d : Cell} (hr : M r = none) (ht : mup M r c t = none) : Grow2 M r t (mup (mup M r c) t d) := by
  have ne : t ≠ r := (mup_none ht).1
  unfold Grow2
  rw [mdel_mup_ne ne, mdel_put, mdel_put]
  exact mdel_of (mdel_of (Sub.refl M) hr) (mup_none ht).2
def logD (n : Nat) : List (Key × Dv) := (List.range n).map fun (k : Nat) => (Sum.inl ((GF.pw k : Nat) : Int), dn k)
def Field (w : Addr) (M : Ms) : Prop := M w = some (.dic (logD 255))
theorem Field.sub {w : Addr} {M M' : Ms} (h : Field w M) (s : Sub M M') : Field w M' := s w _ h
end Law
namespace Law
open PySem L2 HC PyProof.Rows
theorem xorB_comm : ∀ (a b : Blk), xorB a b = xorB b a
  | [], b => by cases b <;> simp [xorB]
  | x :: a, [] => by simp [xorB]
  | x :: a, y :: b => by
    have := xorB_comm a b
    simp only [xorB, List.zipWith_cons_cons, List.cons.injEq] at this ⊢
    exact ⟨Nat.xor_comm x y, this⟩
theorem xorB_assoc : ∀ (a b c : Blk), xorB (xorB a b) c = xorB a (xorB b c)
  | [], b, c => by simp [xorB]
  | x :: a, [], c => by simp [xorB]
  | x :: a, y :: b, [] => by simp [xorB]
  | x :: a, y :: b, z :: c => by
    have := xorB_assoc a b c
    simp only [xorB, List.zipWith_cons_cons, List.cons.injEq] at this ⊢
    exact ⟨Nat.xor_assoc x y z, this⟩
theorem xorB_zero : ∀ (n : Nat) (a : Blk), a.length = n → xorB a (zeroB n) = a
  | 0, [], _ => rfl
  | n + 1, x :: a, h => by
    have := xorB_zero n a (by simpa using h)
    simp only [xorB, zeroB, List.replicate_succ, List.zipWith_cons_cons, List.cons.injEq, Nat.xor_zero, true_and] at this ⊢
    exact this
theorem xorB_self : ∀ (n : Nat) (a : Blk), a.length = n → xorB a a = zeroB n
  | 0, [], _ => rfl
  | n + 1, x :: a, h => by
    have := xorB_self n a (by simpa using h)
    simp only [xorB, zeroB, List.replicate_succ, List.zipWith_cons_cons, List.cons.injEq, Nat.xor_self, true_and] at this ⊢
    exact this
theorem zero_xorB {n : Nat} {a : Blk} (h : a.length = n) : xorB (zeroB n) a = a := by rw [xorB_comm, xorB_zero n a h]
theorem xorB_cancel {n : Nat} {a b : Blk} (ha : a.length = n) (hb : b.length = n) : xorB a (xorB a b) = b := by
  rw [← xorB_assoc, xorB_self n a ha, zero_xorB hb]
theorem mulB_mulB {a c : Nat} {b : Blk} (ha : a < 256) (hc : c < 256) (hb : ∀ x ∈ b, x < 256) : mulB a (mulB c b) = mulB (GF.gt a c) b := by
  unfold mulB
  rw [List.map_map]
  exact List.map_congr_left fun x hx => GF.gt_assoc ha hc (hb x hx)
theorem mulB_one {b : Blk} (hb : ∀ x ∈ b, x < 256) : mulB 1 b = b := by
  unfold mulB
  have : b.map (GF.gt 1) = b.map id := List.map_congr_left fun x hx => GF.one_gt (hb x hx)
  rw [this, List.map_id]
theorem inv_mulB {c : Nat} {b : Blk} (hc : c < 256) (h0 : c ≠ 0) (hb : ∀ x ∈ b, x < 256) : mulB (GF.inv c) (mulB c b) = b := by
  rw [mulB_mulB (GF.inv_lt hc) hc hb, GF.gt_comm (GF.inv_lt hc) hc, GF.gt_inv hc h0, mulB_one hb]
theorem mulB_addc (a c : Nat) : ∀ (b : Blk), mulB (a ^^^ c) b = xorB (mulB a b) (mulB c b)
  | [] => rfl
  | x :: b => by
    have := mulB_addc a c b
    simp only [mulB, xorB, List.map_cons, List.zipWith_cons_cons, List.cons.injEq] at this ⊢
    exact ⟨GF.lin_Ga 8 x a c, this⟩
theorem mulB_zero (c n : Nat) : mulB c (zeroB n) = zeroB n := by
  simp [mulB, zeroB, List.map_replicate, GF.gt_zero]
theorem foldB_start : ∀ (bs : List Blk) (z w : Blk), bs.foldl xorB (xorB z w) = xorB z (bs.foldl xorB w)
  | [], _, _ => rfl
  | b :: bs, z, w => by
    rw [List.foldl_cons, List.foldl_cons, xorB_assoc]
    exact foldB_start bs z (xorB w b)
theorem sumB_split {n : Nat} {A B : List Blk} {x : Blk} (hx : x.length = n) : sumB n (A ++ x :: B) = xorB x (sumB n (A ++ B)) := by
  unfold sumB
  rw [List.foldl_append, List.foldl_append, List.foldl_cons, xorB_comm _ x]
  exact foldB_start B x _
theorem set_split {α : Type} {xs : List α} {g : Nat} (h : g < xs.length) (b : α) : xs.set g b = xs.take g ++ b :: xs.drop (g + 1) := by
  rw [List.set_eq_take_append_cons_drop, if_pos h]
theorem sumB_set {n g : Nat} {xs : List Blk} {b : Blk} (hg : g < xs.length) (hb : b.length = n) (hz : (xs.getD g []).length = n) : sumB n (xs.set g b) = xorB (xorB (sumB n xs) (xs.getD g [])) b := by
  have e : xs = xs.take g ++ xs.getD g [] :: xs.drop (g + 1) := by
    rw [← set_split hg]
    refine (List.ext_getElem (by simp) fun i h1 h2 => ?_)
    rw [List.getElem_set]
    split
    · next e => subst e; simp [List.getD, hg]
    · rfl
  have s1 := sumB_split (n := n) (A := xs.take g) (B := xs.drop (g + 1)) hb
  have s2 := sumB_split (n := n) (A := xs.take g) (B := xs.drop (g + 1)) hz
  rw [← e] at s2
  rw [set_split hg, s1, s2]
  rw [xorB_comm (xs.getD g []) _, xorB_assoc, xorB_assoc, xorB_comm b]
  congr 1
  rw [← xorB_assoc, xorB_self n _ hz, zero_xorB hb]
theorem turnB_set {g : Nat} {xs : List Blk} {b : Blk} (hg : g < xs.length) : turnB (xs.set g b) = (turnB xs).set g (mulB (GF.pw g) b) := by
  refine List.ext_getElem (by simp [turnB]) fun i h1 h2 => ?_
  simp [turnB] at h1
  rw [List.getElem_set]
  simp only [turnB, List.getElem_map, List.getElem_range]
  rw [List.getD_eq_getElem?_getD, List.getElem?_set]
  by_cases e : g = i
  · subst e
    rw [if_pos rfl, if_pos rfl, if_pos hg]
    rfl
  · rw [if_neg e, if_neg e, List.getD_eq_getElem?_getD]
theorem turnB_getD {xs : List Blk} {g : Nat} (hg : g < xs.length) : (turnB xs).getD g [] = mulB (GF.pw g) (xs.getD g []) := by
  rw [List.getD_eq_getElem?_getD, turnB, List.getElem?_map, List.getElem?_range hg]
  rfl
abbrev Row := List (Option Blk)
def known (r : Row) : List Nat := (List.range r.length).filter fun i => (r.getD i none).isSome
def goneP (k : Nat) (r : Row) : List Nat := (List.range k).filter fun i => (r.getD i none).isNone
def data0 (n k : Nat) (r : Row) : List Blk := (r.take k).map fun o => o.getD (zeroB n)
def byP (n : Nat) (d0 : List Blk) (P : Blk) : Blk := xorB P (sumB n d0)
def byQ (n : Nat) (d0 : List Blk) (g : Nat) (Qb : Blk) : Blk := mulB (GF.inv (GF.pw g)) (xorB Qb (sumB n (turnB d0)))
def byPQ (n : Nat) (d0 : List Blk) (g h : Nat) (P Qb : Blk) : Blk := mulB (GF.inv (GF.pw g ^^^ GF.pw h)) (xorB (xorB Qb (sumB n (turnB d0))) (mulB (GF.pw h) (xorB P (sumB n d0))))
def dataTold (p n : Nat) (r : Row) : List Blk :=
  let k := r.length - p
  let d0 := data0 n k r
  match goneP k r with
  | [] => d0
  | [g] => match r.getD k none with
    | some P => d0.set g (byP n d0 P)
    | none => d0.set g (byQ n d0 g ((r.getD (k + 1) none).getD []))
  | g :: h :: _ =>
    let P := (r.getD k none).getD []
    let Qb := (r.getD (k + 1) none).getD []
    let one := byPQ n d0 g h P Qb
    (d0.set g one).set h (xorB (xorB P (sumB n d0)) one)
theorem filter_two {α : Type} (f : α → Bool) : ∀ l : List α, (l.filter f).length + (l.filter fun x => !f x).length = l.length
  | [] => rfl
  | x :: l => by
    have := filter_two f l
    cases e : f x <;> simp [List.filter_cons, e] <;> omega
def Hides (p n : Nat) (ds : List Blk) (r : Row) : Prop := r.length = ds.length + p ∧ ∀ i b, r.getD i none = some b → (ds ++ parB p n ds).getD i [] = b
theorem data0_len {n k : Nat} {r : Row} (h : k ≤ r.length) : (data0 n k r).length = k := by simp [data0]; omega
theorem data0_at {n k i : Nat} {r : Row} (h : k ≤ r.length) (hi : i < k) : (data0 n k r).getD i [] = (r.getD i none).getD (zeroB n) := by
  unfold data0
  rw [List.getD_eq_getElem?_getD, List.getElem?_map, List.getElem?_take, if_pos hi, List.getElem?_eq_getElem (by omega), List.getD_eq_getElem?_getD, List.getElem?_eq_getElem (by omega)]
  rfl
theorem gone_mem {k i : Nat} {r : Row} : i ∈ goneP k r ↔ i < k ∧ r.getD i none = none := by
  unfold goneP
  rw [List.mem_filter, List.mem_range, Option.isNone_iff_eq_none]
theorem blks_ext {xs ys : List Blk} (hl : xs.length = ys.length) (h : ∀ i, i < xs.length → xs.getD i [] = ys.getD i []) : xs = ys := by
  refine List.ext_getElem hl fun i h1 h2 => ?_
  have := h i h1
  rw [List.getD_eq_getElem?_getD, List.getD_eq_getElem?_getD, List.getElem?_eq_getElem h1, List.getElem?_eq_getElem h2] at this
  exact this
theorem getD_set {xs : List Blk} {g i : Nat} {b : Blk} (hg : g < xs.length) : (xs.set g b).getD i [] = if g = i then b else xs.getD i [] := by
  rw [List.getD_eq_getElem?_getD, List.getElem?_set]
  by_cases e : g = i
  · subst e; rw [if_pos rfl, if_pos rfl, if_pos hg]; rfl
  · rw [if_neg e, if_neg e, List.getD_eq_getElem?_getD]
theorem data_set {ds : List Blk} {g : Nat} : ds.set g (ds.getD g []) = ds := by
  refine List.ext_getElem (by simp) fun i h1 h2 => ?_
  rw [List.getElem_set]
  split
  · next e => subst e; simp [List.getD, h2]
  · rfl
section
variable {p n : Nat} {ds : List Blk} {r : Row}
theorem Hides.data (h : Hides p n ds r) {i : Nat} (hi : i < ds.length) (b : Blk) (e : r.getD i none = some b) : ds.getD i [] = b := by
  have := h.2 i b e
  rwa [List.getD_eq_getElem?_getD, List.getElem?_append_left hi, ← List.getD_eq_getElem?_getD] at this
theorem Hides.par (h : Hides p n ds r) {j : Nat} (b : Blk) (e : r.getD (ds.length + j) none = some b) : (parB p n ds).getD j [] = b := by
  have := h.2 _ b e
  rwa [List.getD_eq_getElem?_getD, List.getElem?_append_right (by omega), Nat.add_sub_cancel_left, ← List.getD_eq_getElem?_getD] at this
theorem hides_d0 (h : Hides p n ds r) {i : Nat} (hi : i < ds.length) : (data0 n ds.length r).getD i [] = if r.getD i none = none then zeroB n else ds.getD i [] := by
  rw [data0_at (by rw [h.1]; omega) hi]
  cases e : r.getD i none with
  | none => rw [if_pos rfl]; rfl
  | some b => rw [if_neg (fun z => nomatch z), h.data hi b e]; rfl
theorem dataTold_code (p1 : 1 ≤ p) (p2 : p ≤ 2) (hw : WfR n ds) (hl : ds.length ≤ 255) (h : Hides p n ds r) (hk : ds.length ≤ (known r).length) : dataTold p n r = ds := by
  have ek : r.length - p = ds.length := by rw [h.1]; omega
  have dl : (data0 n ds.length r).length = ds.length := data0_len (by rw [h.1]; omega)
  have wd : ∀ i, i < ds.length → BlkOk' (ds.getD i []) n := fun i hi => hw _ (getD_mem hi)
  have ws := sumB_wf hw
  have wt := sumB_wf (turnB_wf hw)
  have count : (known r).length + (goneP ds.length r).length ≤ ds.length + ((List.range p).filter fun j => (r.getD (ds.length + j) none).isSome).length := by
    unfold known goneP
    rw [h.1, List.range_add, List.filter_append, List.length_append, List.filter_map, List.length_map]
    have c : ((List.range ds.length).filter fun i => (r.getD i none).isSome).length + ((List.range ds.length).filter fun i => (r.getD i none).isNone).length = ds.length := by
      have := filter_two (fun i => (r.getD i none).isSome) (List.range ds.length)
      rw [List.length_range] at this
      have e : (fun i => (r.getD i none).isNone) = fun i => !(r.getD i none).isSome := by
        funext i; cases r.getD i none <;> rfl
      rw [e]
      omega
    have e2 : ((fun i => (r.getD i none).isSome) ∘ fun x => ds.length + x) = fun j => (r.getD (ds.length + j) none).isSome := rfl
    rw [e2]
    omega
  have pcount : ((List.range p).filter fun j => (r.getD (ds.length + j) none).isSome).length ≤ p := by
    have := List.length_filter_le (fun j => (r.getD (ds.length + j) none).isSome) (List.range p)
    rwa [List.length_range] at this
  unfold dataTold
  simp only [ek]
  have sorted : ∀ i, i ∈ goneP ds.length r ↔ i < ds.length ∧ r.getD i none = none := fun i => gone_mem
  have nd : (goneP ds.length r).Nodup := List.Pairwise.filter _ List.nodup_range
  generalize hg : goneP ds.length r = G at *
  match G, hg with
  | [], hg =>
    refine blks_ext dl fun i hi => ?_
    rw [dl] at hi
    rw [hides_d0 h hi, if_neg]
    intro e
    exact absurd ((sorted i).mpr ⟨hi, e⟩) (List.not_mem_nil)
  | [g], hg =>
    obtain ⟨g1, g2⟩ := (sorted g).mp (by simp)
    have only : ∀ i, i < ds.length → i ≠ g → r.getD i none ≠ none := fun i hi hne e => hne (by simpa using (sorted i).mpr ⟨hi, e⟩)
    have ed : data0 n ds.length r = ds.set g (zeroB n) := blks_ext (by rw [dl, List.length_set]) fun i hi => by
      rw [dl] at hi
      rw [hides_d0 h hi, getD_set g1]
      by_cases e : g = i
      · subst e; rw [if_pos g2, if_pos rfl]
      · rw [if_neg (only i hi (Ne.symm e)), if_neg e]
    have zl : (zeroB n).length = n := by simp [zeroB]
    have s0 : sumB n (ds.set g (zeroB n)) = xorB (sumB n ds) (ds.getD g []) := by
      rw [sumB_set g1 zl (wd g g1).1, xorB_zero n _ (xorB_wf ws (wd g g1)).1]
    have t0 : sumB n (turnB (ds.set g (zeroB n))) = xorB (sumB n (turnB ds)) (mulB (GF.pw g) (ds.getD g [])) := by
      have wm := mulB_wf (GF.gp_lt 2 g) (wd g g1)
      rw [turnB_set g1, mulB_zero, sumB_set (by rw [turnB_len]; exact g1) zl (by rw [turnB_getD g1]; exact wm.1), turnB_getD g1, xorB_zero n _ (xorB_wf wt wm).1]
    cases eP : r.getD ds.length none with
    | some P =>
      have hP : sumB n ds = P := by
        have := h.par (j := 0) P (by simpa using eP)
        unfold parB at this
        split at this <;> exact this
      simp only [ed, byP, s0, List.set_set]
      rw [← hP, xorB_cancel ws.1 (wd g g1).1, data_set]
    | none =>
      have hp : p = 2 := by
        rcases (show p = 1 ∨ p = 2 by omega) with e | e
        · subst e
          rw [List.getD_eq_getElem?_getD] at eP
          have : ((List.range 1).filter fun j => (r.getD (ds.length + j) none).isSome).length = 0 := by
            simp [eP]
          simp only [List.length_singleton] at count
          omega
        · exact e
      subst hp
      have eQ : ∃ Qb, r.getD (ds.length + 1) none = some Qb := by
        cases eQ : r.getD (ds.length + 1) none with
        | some Qb => exact ⟨Qb, rfl⟩
        | none =>
          rw [List.getD_eq_getElem?_getD] at eP eQ
          have : ((List.range 2).filter fun j => (r.getD (ds.length + j) none).isSome).length = 0 := by
            simp [List.range_succ, eP, eQ]
          simp only [List.length_singleton] at count
          omega
      obtain ⟨Qb, eQ⟩ := eQ
      have hQ : sumB n (turnB ds) = Qb := h.par (j := 1) Qb eQ
      have wm := mulB_wf (GF.gp_lt 2 g) (wd g g1)
      simp only [ed, byQ, t0, List.set_set, eQ, Option.getD_some]
      rw [← hQ, xorB_cancel wt.1 wm.1, inv_mulB (GF.gp_lt 2 g) (GF.pw_ne0 g) (wd g g1).2, data_set]
  | g :: hh :: rest, hg =>
    obtain ⟨g1, g2⟩ := (sorted g).mp (by simp)
    obtain ⟨h1, h2⟩ := (sorted hh).mp (by simp)
    have hne : g ≠ hh := by
      intro e
      rw [e] at nd
      simp at nd
    have rest0 : rest = [] := by
      simp only [List.length_cons] at count
      have : rest.length = 0 := by omega
      exact List.length_eq_zero_iff.mp this
    subst rest0
    simp only [List.length_cons, List.length_nil] at count
    have hp : p = 2 := by omega
    subst hp
    have both : (r.getD ds.length none).isSome = true ∧ (r.getD (ds.length + 1) none).isSome = true := by
      have c2 : 2 ≤ ((List.range 2).filter fun j => (r.getD (ds.length + j) none).isSome).length := by omega
      have e3 : (List.range 2).filter (fun j => (r.getD (ds.length + j) none).isSome) = (if (r.getD ds.length none).isSome then [0] else []) ++ (if (r.getD (ds.length + 1) none).isSome then [1] else []) := by
        rw [show List.range 2 = [0, 1] from rfl]
        cases e1 : (r.getD (ds.length + 0) none).isSome <;> cases e2 : (r.getD (ds.length + 1) none).isSome <;> rw [Nat.add_zero] at e1 <;> simp only [List.filter_cons, List.filter_nil, Nat.add_zero, e1, e2] <;> rfl
      rw [e3] at c2
      cases e1 : (r.getD ds.length none).isSome <;> cases e2 : (r.getD (ds.length + 1) none).isSome <;> rw [e1, e2] at c2 <;> first | exact ⟨rfl, rfl⟩ | (exact absurd c2 (by decide))
    obtain ⟨P, eP⟩ := Option.isSome_iff_exists.mp both.1
    obtain ⟨Qb, eQ⟩ := Option.isSome_iff_exists.mp both.2
    have hP : sumB n ds = P := h.par (p := 2) (j := 0) P (by simpa using eP)
    have hQ : sumB n (turnB ds) = Qb := h.par (p := 2) (j := 1) Qb eQ
    have only : ∀ i, i < ds.length → i ≠ g → i ≠ hh → r.getD i none ≠ none := fun i hi a b e => by
      have := (sorted i).mpr ⟨hi, e⟩
      simp [a, b] at this
    have zl : (zeroB n).length = n := by simp [zeroB]
    have ed : data0 n ds.length r = (ds.set g (zeroB n)).set hh (zeroB n) := blks_ext (by rw [dl, List.length_set, List.length_set]) fun i hi => by
      rw [dl] at hi
      rw [hides_d0 h hi, getD_set (by rw [List.length_set]; exact h1), getD_set g1]
      by_cases e : hh = i
      · subst e; rw [if_pos h2, if_pos rfl]
      · rw [if_neg e]
        by_cases e2 : g = i
        · subst e2; rw [if_pos g2, if_pos rfl]
        · rw [if_neg (only i hi (Ne.symm e2) (Ne.symm e)), if_neg e2]
    have wg := wd g g1
    have wh := wd hh h1
    have mg := mulB_wf (GF.gp_lt 2 g) wg
    have mh := mulB_wf (GF.gp_lt 2 hh) wh
    have hd : (ds.set g (zeroB n)).getD hh [] = ds.getD hh [] := by rw [getD_set g1, if_neg hne]
    have s0 : sumB n ((ds.set g (zeroB n)).set hh (zeroB n)) = xorB (xorB (sumB n ds) (ds.getD g [])) (ds.getD hh []) := by
      rw [sumB_set (by rw [List.length_set]; exact h1) zl (by rw [hd]; exact wh.1), hd, sumB_set g1 zl wg.1, xorB_zero n _ (xorB_wf ws wg).1, xorB_zero n _ (xorB_wf (xorB_wf ws wg) wh).1]
    have t0 : sumB n (turnB ((ds.set g (zeroB n)).set hh (zeroB n))) = xorB (xorB (sumB n (turnB ds)) (mulB (GF.pw g) (ds.getD g []))) (mulB (GF.pw hh) (ds.getD hh [])) := by
      have e1 : ((turnB ds).set g (zeroB n)).getD hh [] = mulB (GF.pw hh) (ds.getD hh []) := by
        rw [getD_set (by rw [turnB_len]; exact g1), if_neg hne, turnB_getD h1]
      rw [turnB_set (by rw [List.length_set]; exact h1), turnB_set g1, mulB_zero, mulB_zero, sumB_set (by rw [List.length_set, turnB_len]; exact h1) zl (by rw [e1]; exact mh.1), e1, sumB_set (by rw [turnB_len]; exact g1) zl (by rw [turnB_getD g1]; exact mg.1), turnB_getD g1, xorB_zero n _ (xorB_wf wt mg).1, xorB_zero n _ (xorB_wf (xorB_wf wt mg) mh).1]
    have first : xorB P (sumB n ((ds.set g (zeroB n)).set hh (zeroB n))) = xorB (ds.getD g []) (ds.getD hh []) := by
      rw [s0, ← hP, xorB_assoc, xorB_cancel ws.1 (xorB_wf wg wh).1]
    have second : xorB Qb (sumB n (turnB ((ds.set g (zeroB n)).set hh (zeroB n)))) = xorB (mulB (GF.pw g) (ds.getD g [])) (mulB (GF.pw hh) (ds.getD hh [])) := by
      rw [t0, ← hQ, xorB_assoc, xorB_cancel wt.1 (xorB_wf mg mh).1]
    have lean0 : GF.pw g ^^^ GF.pw hh ≠ 0 := fun e => GF.pw_inj (i := g) (j := hh) (by omega) (by omega) hne (by
      have := congrArg (fun x => x ^^^ GF.pw hh) e
      simpa [Nat.xor_assoc] using this)
    have leanl : GF.pw g ^^^ GF.pw hh < 256 := GF.xor8 (GF.gp_lt 2 g) (GF.gp_lt 2 hh)
    have one : byPQ n ((ds.set g (zeroB n)).set hh (zeroB n)) g hh P Qb = ds.getD g [] := by
      unfold byPQ
      rw [first, second, mulB_xor (GF.pw hh), xorB_assoc]
      have mhg := mulB_wf (GF.gp_lt 2 hh) wg
      rw [xorB_comm (mulB (GF.pw hh) (ds.getD hh [])) _, xorB_assoc, xorB_self n _ mh.1, xorB_zero n _ mhg.1, ← mulB_addc, inv_mulB leanl lean0 wg.2]
    simp only [ed, eP, eQ, Option.getD_some, one, first]
    rw [xorB_comm (ds.getD g []) (ds.getD hh []), xorB_assoc, xorB_self n _ wg.1, xorB_zero n _ wh.1]
    refine blks_ext (by simp) fun i hi => ?_
    rw [getD_set (by simpa using h1), getD_set (by simpa using g1), getD_set (by simpa using h1), getD_set g1]
    by_cases e : hh = i
    · subst e; rw [if_pos rfl]
    · rw [if_neg e]
      by_cases e2 : g = i
      · subst e2; rw [if_pos rfl]
      · rw [if_neg e2, if_neg e, if_neg e2]
theorem getD_some {r : Row} {i : Nat} {b : Blk} (h : r.getD i none = some b) : i < r.length ∧ some b ∈ r := by
  rw [List.getD_eq_getElem?_getD] at h
  cases e : r[i]? with
  | none => rw [e] at h; cases h
  | some o =>
    rw [e] at h
    have e2 : o = some b := h
    subst e2
    exact ⟨(List.getElem?_eq_some_iff.mp e).1, List.mem_of_getElem? e⟩
theorem getD_range (r : Row) : (List.range r.length).map (fun i => r.getD i none) = r := by
  refine List.ext_getElem (by simp) fun i h1 h2 => ?_
  simp [List.getD, h2]
theorem known_len (r : Row) : (known r).length = (r.filter Option.isSome).length := by
  have e : r.filter Option.isSome = (known r).map fun i => r.getD i none := by
    unfold known
    conv => lhs; rw [← getD_range r]
    rw [List.filter_map]; rfl
  rw [e, List.length_map]
def rowOf (bs : List Blk) : Row := bs.map some
end
end Law
namespace Law
open PySem L2 HC PyProof.Rows
end Law
namespace Law
open PySem L2 HC PyProof.Rows
def pcB (z at' : Nat) (told : Blk) (b : Nat) : Nat × Blk := (at' - b * z, (told.drop (b * z + (at' - b * z) - at')).take (z - (at' - b * z)))
abbrev Pcs := List (Nat × Nat × Blk)
abbrev Grp := List (Nat × Pcs)
def addG (g : Grp) (rp : Nat × Nat) (v : Nat × Blk) : Grp := match g.getLast? with
  | some x => if x.1 = rp.1 then g.dropLast ++ [(x.1, x.2 ++ [(rp.2, v)])] else g ++ [(rp.1, [(rp.2, v)])]
  | none => [(rp.1, [(rp.2, v)])]
def Store.grp (s : Store) (at' : Nat) (told : Blk) : Nat → Grp
  | 0 => []
  | i + 1 => addG (s.grp at' told i) (s.spotN (at' / s.head.size + i)) (pcB s.head.size at' told (at' / s.head.size + i))
def nBl (z at' n : Nat) : Nat := (at' + n - 1) / z - at' / z + 1
structure GrpOk (g : Grp) (rp : Nat × Nat) : Prop where
  up : (g.map (·.1)).Pairwise (· < ·)
  pl : ∀ x ∈ g, (x.2.map (·.1)).Pairwise (· < ·)
  ne : ∀ x ∈ g, x.2 ≠ []
  bd : ∀ x ∈ g, x.1 < rp.1 ∨ (x.1 = rp.1 ∧ ∀ y ∈ x.2, y.1 < rp.2)
theorem last_split {α : Type} {g : List α} {x : α} (h : g.getLast? = some x) : g = g.dropLast ++ [x] := by
  cases g with
  | nil => cases h
  | cons a l =>
    rw [List.getLast?_eq_some_getLast (by simp)] at h
    cases h
    exact (List.dropLast_concat_getLast (by simp)).symm
theorem GrpOk.nil (rp : Nat × Nat) : GrpOk [] rp := ⟨.nil, fun x hx => by (cases hx), fun x hx => by (cases hx), fun x hx => by (cases hx)⟩
def plD (l : Pcs) : List (Key × Dv) := l.map fun x => (.inl (x.1 : Int), .tup [dn x.2.1, bD x.2.2])
def grD (g : Grp) (as : List Addr) : List (Key × Dv) := List.zipWith (fun x a => (.inl (x.1 : Int), .ref a)) g as
structure GM (M : Ms) (f : Addr) (g : Grp) (as : List Addr) : Prop where
  len : as.length = g.length
  nd : as.Nodup
  nf : f ∉ as
  f : M f = some (.dic (grD g as))
  c : ∀ (i : Nat) (x : Nat × Pcs) (a : Addr), g[i]? = some x → as[i]? = some a → M a = some (.dic (plD x.2))
theorem grD_append {g : Grp} {as : List Addr} {x : Nat × Pcs} {a : Addr} (h : as.length = g.length) : grD (g ++ [x]) (as ++ [a]) = grD g as ++ [(.inl (x.1 : Int), .ref a)] := by
  unfold grD
  rw [List.zipWith_append h.symm]
  rfl
theorem GM.sub {M M' : Ms} {f : Addr} {g : Grp} {as : List Addr} (h : GM M f g as) (s : Sub M M') : GM M' f g as := ⟨h.len, h.nd, h.nf, s _ _ h.f, fun i x a e e2 => s _ _ (h.c i x a e e2)⟩
theorem cut_mid (xs : List Dv) (lo hi : Nat) (h : lo ≤ xs.length) (h2 : lo ≤ hi) : cutA xs (some (lo : Int)) (some (hi : Int)) = (xs.drop lo).take (hi - lo) := by
  unfold cutA
  rw [HT.sIx_nat, HT.sIx_nat, Nat.min_eq_left h]
  by_cases e : hi ≤ xs.length
  · rw [Nat.min_eq_left e]
  · rw [Nat.min_eq_right (by omega), List.take_of_length_le (by simp), List.take_of_length_le (by simp; omega)]
end Law
namespace Law
open PySem L2 HC PyProof.Rows
theorem GM.mem {M : Ms} {f : Addr} {g : Grp} {as : List Addr} (h : GM M f g as) {a : Addr} (ha : a ∈ as) : ∃ c, M a = some c := by
  obtain ⟨i, hi, e⟩ := List.mem_iff_getElem.mp ha
  have hg : i < g.length := by rw [← h.len]; exact hi
  exact ⟨_, h.c i g[i] a (List.getElem?_eq_getElem hg) (by rw [List.getElem?_eq_getElem hi, e])⟩
theorem GM.last {M : Ms} {f : Addr} {g : Grp} {as : List Addr} (h : GM M f g as) {x : Nat × Pcs} (e : g.getLast? = some x) : ∃ g' as' a, g = g' ++ [x] ∧ as = as' ++ [a] ∧ as'.length = g'.length := by
  have eg := last_split e
  have l := h.len
  have l2 : as ≠ [] := fun q => by
    rw [q, eg] at l
    simp at l
  refine ⟨g.dropLast, as.dropLast, as.getLast l2, eg, (List.dropLast_concat_getLast l2).symm, by rw [List.length_dropLast, List.length_dropLast, l]⟩
theorem GM.put {M : Ms} {f a : Addr} {g : Grp} {as : List Addr} {x : Nat × Pcs} {y : Nat × Nat × Blk} (h : GM M f (g ++ [x]) (as ++ [a])) (l : as.length = g.length) : GM (mup M a (.dic (plD (x.2 ++ [y])))) f (g ++ [(x.1, x.2 ++ [y])]) (as ++ [a]) := by
  have nf : f ≠ a := fun e => h.nf (by rw [e]; simp)
  refine ⟨by simp [l], h.nd, h.nf, ?_, fun i z b e e2 => ?_⟩
  · rw [mup_ne nf, h.f, grD_append l, grD_append l]
  · by_cases hi : i < g.length
    · rw [List.getElem?_append_left hi] at e
      rw [List.getElem?_append_left (by omega)] at e2
      have ba : b ≠ a := fun q => by
        subst q
        have := List.nodup_append.mp h.nd
        exact this.2.2 b (List.mem_of_getElem? e2) b (by simp) rfl
      rw [mup_ne ba]
      exact h.c i z b (by rw [List.getElem?_append_left hi]; exact e) (by rw [List.getElem?_append_left (by omega)]; exact e2)
    · have hi2 : i = g.length := by
        have := (List.getElem?_eq_some_iff.mp e).1
        simp at this
        omega
      subst hi2
      rw [List.getElem?_append_right (Nat.le_refl _), Nat.sub_self] at e
      rw [← l, List.getElem?_append_right (Nat.le_refl _), Nat.sub_self] at e2
      cases e
      cases e2
      exact mup_same
theorem GM.more {M : Ms} {f p : Addr} {g : Grp} {as : List Addr} {x : Nat × Pcs} {c : Cell} (h : GM M f g as) (hp : M p = some c) (np : p ∉ as) (pf : f ≠ p) : GM (mup (mup M f (.dic (grD g as ++ [(.inl (x.1 : Int), .ref p)]))) p (.dic (plD x.2))) f (g ++ [x]) (as ++ [p]) := by
  refine ⟨by simp [h.len], ?_, ?_, ?_, fun i z b e e2 => ?_⟩
  · rw [List.nodup_append]
    exact ⟨h.nd, by simp, fun a ha b hb e => np (by have : b = p := by simpa using hb
                                                    rw [← this, ← e]; exact ha)⟩
  · intro q
    rcases List.mem_append.mp q with q | q
    · exact h.nf q
    · exact pf (by simpa using q)
  · rw [mup_ne pf, mup_same, grD_append h.len]
  · by_cases hi : i < g.length
    · rw [List.getElem?_append_left hi] at e
      rw [List.getElem?_append_left (by rw [h.len]; exact hi)] at e2
      have hb := List.mem_of_getElem? e2
      rw [mup_ne (show b ≠ p from fun q => np (by rw [← q]; exact hb)), mup_ne (show b ≠ f from fun q => h.nf (by rw [← q]; exact hb))]
      exact h.c i z b e e2
    · have hi2 : i = g.length := by
        have := (List.getElem?_eq_some_iff.mp e).1
        simp at this
        omega
      subst hi2
      rw [List.getElem?_append_right (Nat.le_refl _), Nat.sub_self] at e
      rw [← h.len, List.getElem?_append_right (Nat.le_refl _), Nat.sub_self] at e2
      cases e
      cases e2
      exact mup_same
end Law
namespace Law
open PySem L2 HC PyProof.Rows
end Law
namespace Law
open PySem L2 HC PyProof.Rows
def setPc (d : List Blk) (x : Nat × Nat × Blk) : List Blk := d.set x.1 ((d.getD x.1 []).take x.2.1 ++ x.2.2 ++ (d.getD x.1 []).drop (x.2.1 + x.2.2.length))
def Store.newD (s : Store) (row : Nat) (l : Pcs) : List Blk := l.foldl setPc (dataTold s.head.par s.head.size (s.row row))
def Store.fullN (s : Store) (row : Nat) (l : Pcs) : List Blk := s.newD row l ++ parB s.head.par s.head.size (s.newD row l)
def noteAt (s : Store) (row : Nat) (full : List Blk) (p : Nat) : Option BN := if (s.disks.getD ((row + p) % s.wide row) none).isSome then some ((row + p) % s.wide row, row, full.getD p []) else none
def Store.rowN (s : Store) (row : Nat) (l : Pcs) : List BN := ((l.map (·.1)) ++ (List.range s.head.par).map (s.wide row - s.head.par + ·)).filterMap (noteAt s row (s.fullN row l))
end Law
namespace Law
end Law
namespace Law
open PySem L2 HC PyProof.Rows
def Store.notesW (s : Store) (a : Nat) (told : Blk) : List BN := (s.grp a told (nBl s.head.size a told.length)).flatMap fun x => s.rowN x.1 x.2
end Law
namespace Law
open PySem L2 HC PyProof.Rows
end Law
namespace Law
open PySem L2 HC PyProof.Rows
def noneN (r : Row) : Nat := (r.filter Option.isNone).length
theorem noneN_known (r : Row) : noneN r + (known r).length = r.length := by
  rw [known_len]
  unfold noneN
  induction r with
  | nil => rfl
  | cons o r ih => cases o <;> simp <;> omega
end Law
namespace Law
open PySem L2 HC PyProof.Rows
end Law
namespace Law
open PySem L2 HC PyProof.Rows
end Law
namespace Law
open PySem L2 HC PyProof.Rows
end Law
namespace Law
open PySem L2 HC PyProof.Rows
end Law
namespace Law
open PySem L2 HC PyProof.Rows
def filledR (p n : Nat) (r : Row) : List Blk := dataTold p n r ++ parB p n (dataTold p n r)
def holdsB (p n : Nat) (r : Row) : Bool := decide ((known r).length < r.length - p) || (List.range r.length).all fun i => (r.getD i none).isNone || decide (r.getD i none = some ((filledR p n r).getD i []))
def wrongs (p n : Nat) (r : Row) : List Nat := (List.range r.length).filter fun j => holdsB p n (r.set j none)
def verdictD (p n : Nat) (r : Row) : Dv :=
  if p < r.length - (known r).length then .tup [.str ("lost" : Str)]
  else if r.length - (known r).length = p then .tup [.str ("bare" : Str)]
  else if holdsB p n r = true then .tup [.str ("holds" : Str)]
  else if p = 2 ∧ r.length - (known r).length = 0 then (match wrongs p n r with | [] => .tup [.str ("unlike" : Str)] | j :: _ => .tup [.str ("wrong" : Str), dn j])
  else .tup [.str ("unlike" : Str)]
section
variable {p n : Nat} {ds : List Blk} {r : Row}
theorem holds_of (p1 : 1 ≤ p) (p2 : p ≤ 2) (hw : WfR n ds) (hl : ds.length ≤ 255) (h : Hides p n ds r) : holdsB p n r = true := by
  unfold holdsB
  by_cases hk : (known r).length < r.length - p
  · rw [decide_eq_true hk, Bool.true_or]
  · have e := dataTold_code p1 p2 hw hl h (by have := h.1; omega)
    rw [Bool.or_eq_true, List.all_eq_true]
    right
    intro i _
    rw [Bool.or_eq_true, decide_eq_true_eq]
    cases q : r.getD i none with
    | none => left; rfl
    | some b =>
      right
      rw [filledR, e, h.2 i b q]
end
section
variable {p n g : Nat} {ds : List Blk} {b : Blk}
theorem row_len (p1 : 1 ≤ p) (p2 : p ≤ 2) : (rowOf (ds ++ parB p n ds)).length = ds.length + p := by
  rw [rowOf, List.length_map, List.length_append, parB_len p1 p2]
theorem v_holds {r : Row} (p1 : 1 ≤ p) (p2 : p ≤ 2) (hw : WfR n ds) (hl : ds.length ≤ 255) (h : Hides p n ds r) (hk : ds.length + 1 ≤ (known r).length) : verdictD p n r = .tup [.str ("holds" : Str)] := by
  have := h.1
  unfold verdictD
  rw [if_neg (by omega), if_neg (by omega), holds_of p1 p2 hw hl h, if_pos rfl]
end
end Law
namespace Law
open PySem L2 HC PyProof.Rows
section
variable {n : Nat} {ds : List Blk}
variable {g h : Nat} {b c : Blk}
end
end Law
namespace Law
open PySem L2 HC PyProof.Rows
def SX (f : Nat → Nat) : Nat → Nat
  | 0 => 0
  | k + 1 => SX f k ^^^ f k
theorem SX_congr {f g : Nat → Nat} : ∀ {k}, (∀ i, i < k → f i = g i) → SX f k = SX g k
  | 0, _ => rfl
  | k + 1, h => by rw [SX, SX, SX_congr fun i hi => h i (by omega), h k (by omega)]
theorem SX_zero {f : Nat → Nat} : ∀ {k}, (∀ i, i < k → f i = 0) → SX f k = 0
  | 0, _ => rfl
  | k + 1, h => by rw [SX, SX_zero fun i hi => h i (by omega), h k (by omega)]; rfl
theorem SX_xor (f g : Nat → Nat) : ∀ k, SX (fun i => f i ^^^ g i) k = SX f k ^^^ SX g k
  | 0 => (Nat.xor_self 0).symm
  | k + 1 => by rw [SX, SX, SX, SX_xor f g k, GF.xor4]
theorem SX_gt (c : Nat) (f : Nat → Nat) : ∀ k, SX (fun i => GF.gt c (f i)) k = GF.gt c (SX f k)
  | 0 => (GF.gt_zero c).symm
  | k + 1 => by
    rw [SX, SX, SX_gt c f k]
    exact (GF.lin_Gb 8 c _ _).symm
theorem SX_one {f : Nat → Nat} {j : Nat} : ∀ {k}, j < k → (∀ i, i < k → i ≠ j → f i = 0) → SX f k = f j
  | 0, h, _ => by omega
  | k + 1, h, hz => by
    rw [SX]
    by_cases e : j = k
    · subst e
      rw [SX_zero fun i hi => hz i (by omega) (by omega), Nat.zero_xor]
    · rw [SX_one (j := j) (by omega) fun i hi => hz i (by omega), hz k (by omega) (Ne.symm e), Nat.xor_zero]
theorem gt_xor_l (a b c : Nat) : GF.gt (a ^^^ b) c = GF.gt a c ^^^ GF.gt b c := GF.lin_Ga 8 c a b
def LV (k : Nat) (l : Blk) (v : Nat → Nat) : Nat := SX (fun i => GF.gt (l.getD i 0) (v i)) k
structure Lk (k : Nat) (l : Blk) : Prop where
  len : l.length = k
  lt : ∀ x ∈ l, x < 256
theorem Lk.get {k : Nat} {l : Blk} (h : Lk k l) (i : Nat) : l.getD i 0 < 256 := by
  rw [List.getD_eq_getElem?_getD]
  by_cases hi : i < l.length
  · rw [List.getElem?_eq_getElem hi]; exact h.lt _ (List.getElem_mem hi)
  · rw [List.getElem?_eq_none (by omega)]; show 0 < 256; decide
theorem LV_mul {k f : Nat} {l : Blk} {v : Nat → Nat} (hl : Lk k l) (hf : f < 256) (hv : ∀ i, v i < 256) : LV k (mulB f l) v = GF.gt f (LV k l v) := by
  unfold LV
  rw [← SX_gt]
  refine SX_congr fun i hi => ?_
  rw [mulB_getD (by rw [hl.len]; exact hi), GF.gt_assoc hf (hl.get i) (hv i)]
theorem LV_add {k : Nat} {l m : Blk} {v : Nat → Nat} (hl : Lk k l) (hm : Lk k m) : LV k (xorB l m) v = LV k l v ^^^ LV k m v := by
  unfold LV
  rw [← SX_xor]
  refine SX_congr fun i hi => ?_
  rw [xorB_getD (by rw [hl.len]; exact hi) (by rw [hm.len]; exact hi), gt_xor_l]
theorem Lk.mul {k f : Nat} {l : Blk} (h : Lk k l) (hf : f < 256) : Lk k (mulB f l) := ⟨by rw [mulB, List.length_map, h.len], fun x hx => by
  obtain ⟨y, _, rfl⟩ := List.mem_map.mp hx
  exact GF.gt_lt y hf⟩
theorem Lk.add {k : Nat} {l m : Blk} (h : Lk k l) (h' : Lk k m) : Lk k (xorB l m) := by
  have := xorB_wf (n := k) ⟨h.len, h.lt⟩ ⟨h'.len, h'.lt⟩
  exact ⟨this.1, this.2⟩
abbrev Eq2 := Blk × Blk
def lessR (a b : Eq2) (f : Nat) : Eq2 := (xorB a.1 (mulB f b.1), xorB a.2 (mulB f b.2))
def Tells (k n : Nat) (D : Nat → Blk) (e : Eq2) : Prop := ∀ t, t < n → LV k e.1 (fun i => (D i).getD t 0) = e.2.getD t 0
structure EqOk (k n : Nat) (e : Eq2) : Prop where
  l : Lk k e.1
  b : Lk n e.2
theorem EqOk.less {k n f : Nat} {a b : Eq2} (h : EqOk k n a) (h' : EqOk k n b) (hf : f < 256) : EqOk k n (lessR a b f) := ⟨h.l.add (h'.l.mul hf), h.b.add (h'.b.mul hf)⟩
def Dok (n : Nat) (D : Nat → Blk) : Prop := ∀ i, Lk n (D i)
theorem less_back {k n f : Nat} {a b : Eq2} {D : Nat → Blk} (ha : EqOk k n a) (hb : EqOk k n b) (hf : f < 256) (hD : Dok n D) (q : Tells k n D (lessR a b f)) (q' : Tells k n D b) : Tells k n D a := fun t ht => by
  have h1 := q t ht
  have h2 := q' t ht
  unfold lessR at h1
  simp only at h1
  rw [LV_add ha.l (hb.l.mul hf), LV_mul hb.l hf (fun i => (hD i).get t), h2, xorB_getD (by rw [ha.b.len]; exact ht) (by rw [(hb.b.mul hf).len]; exact ht), mulB_getD (by rw [hb.b.len]; exact ht)] at h1
  have := congrArg (· ^^^ GF.gt f (b.2.getD t 0)) h1
  simp only [Nat.xor_assoc, Nat.xor_self, Nat.xor_zero] at this
  exact this
def Ker (k : Nat) (R : Nat → Eq2) : Prop := ∀ v : Nat → Nat, (∀ i, v i < 256) → (∀ j, j < k → LV k (R j).1 v = 0) → ∀ i, i < k → v i = 0
def Sol (k n : Nat) (R R0 : Nat → Eq2) : Prop := ∀ D, Dok n D → (∀ j, j < k → Tells k n D (R j)) → ∀ j, j < k → Tells k n D (R0 j)
def Form (k c : Nat) (R : Nat → Eq2) : Prop := ∀ j, j < k → ∀ i, i < c → (R j).1.getD i 0 = if j = i then 1 else 0
structure Inv (k n c : Nat) (R R0 : Nat → Eq2) : Prop where
  ok : ∀ j, j < k → EqOk k n (R j)
  ker : Ker k R
  sol : Sol k n R R0
  form : Form k c R
def lessAt (R : Nat → Eq2) (c m : Nat) (i : Nat) : Eq2 := if i < m ∧ i ≠ c then lessR (R i) (R c) ((R i).1.getD c 0) else R i
section
variable {k n c : Nat} {R R0 : Nat → Eq2}
theorem Inv.less (h : Inv k n c R R0) (hc : c < k) (hp : (R c).1.getD c 0 = 1) : Inv k n (c + 1) (lessAt R c k) R0 := by
  have cc : lessAt R c k c = R c := by rw [lessAt, if_neg (by omega)]
  have oj : ∀ j, j < k → j ≠ c → lessAt R c k j = lessR (R j) (R c) ((R j).1.getD c 0) := fun j hj e => by rw [lessAt, if_pos ⟨hj, e⟩]
  have ol := fun j hj => (h.ok j hj).l
  refine ⟨fun j hj => ?_, fun v hv hz => h.ker v hv fun j hj => ?_, fun D hD q => h.sol D hD fun j hj => ?_, fun j hj i hi => ?_⟩
  · by_cases e : j = c
    · rw [e, cc]; exact h.ok c hc
    · rw [oj j hj e]; exact (h.ok j hj).less (h.ok c hc) ((ol j hj).get c)
  · have zc := hz c hc
    rw [cc] at zc
    by_cases e : j = c
    · rw [e]; exact zc
    · have := hz j hj
      rw [oj j hj e, lessR, LV_add (ol j hj) ((ol c hc).mul ((ol j hj).get c)), LV_mul (ol c hc) ((ol j hj).get c) hv, zc, GF.gt_zero, Nat.xor_zero] at this
      exact this
  · have zc := q c hc
    rw [cc] at zc
    by_cases e : j = c
    · rw [e]; exact zc
    · have := q j hj
      rw [oj j hj e] at this
      exact less_back (h.ok j hj) (h.ok c hc) ((ol j hj).get c) hD this zc
  · have fl : ∀ i, i < k → (lessR (R j) (R c) ((R j).1.getD c 0)).1.getD i 0 = (R j).1.getD i 0 ^^^ GF.gt ((R j).1.getD c 0) ((R c).1.getD i 0) := fun i hi => by
      rw [lessR, xorB_getD (by rw [(ol j hj).len]; exact hi) (by rw [((ol c hc).mul ((ol j hj).get c)).len]; exact hi), mulB_getD (by rw [(ol c hc).len]; exact hi)]
    by_cases e : j = c
    · subst e
      rw [cc]
      by_cases e2 : i = j
      · subst e2; rw [hp, if_pos rfl]
      · exact h.form j hj i (by omega)
    · rw [oj j hj e, fl i (by omega)]
      by_cases e2 : i = c
      · subst e2
        rw [hp, GF.gt_one ((ol j hj).get i), Nat.xor_self, if_neg e]
      · rw [h.form c hc i (by omega), if_neg (Ne.symm e2), GF.gt_zero, Nat.xor_zero]
        exact h.form j hj i (by omega)
theorem Inv.done (h : Inv k n k R R0) : ∀ j, j < k → Tells k n (fun i => if i < k then (R i).2 else zeroB n) (R0 j) := by
  have hD : Dok n (fun i => if i < k then (R i).2 else zeroB n) := fun i => by
    by_cases e : i < k
    · simp only [if_pos e]; exact (h.ok i e).b
    · simp only [if_neg e]; exact ⟨zeroB_wf.1, zeroB_wf.2⟩
  refine h.sol _ hD fun j hj t ht => ?_
  unfold LV
  rw [SX_one (j := j) hj (fun i hi ne => by rw [h.form j hj i hi, if_neg (Ne.symm ne), GF.zero_gt]), h.form j hj j hj, if_pos rfl]
  simp only [if_pos hj]
  exact GF.one_gt ((h.ok j hj).b.get t)
end
end Law
namespace Law
open PySem L2 HC PyProof.Rows
section
variable {p n k : Nat} {ds : List Blk}
end
section
variable {p n k : Nat} {r : Row}
end
end Law
namespace Law
open PySem L2 HC PyProof.Rows
end Law
namespace Law
open PySem L2 HC PyProof.Rows
def potL (q : Addr) (t c : Int) : Cell := .lst [.ref q, .int t, .int c]
structure LPot (p q : Addr) (b : Nat) (M : Ms) : Prop where
  ne : p ≠ q
  d : ∃ t : Int, ∃ c : Nat, M p = some (potL q t c) ∧ c ≤ b
  o : ∃ own : List Int, M q = some (.lst (own.map Dv.int))
def Off (p q : Addr) (M M' : Ms) : Prop := ∀ a c, a ≠ p → a ≠ q → M a = some c → M' a = some c
theorem Off.refl (p q : Addr) (M : Ms) : Off p q M M := fun _ _ _ _ e => e
theorem Off.trans {p q : Addr} {M M1 M2 : Ms} (h : Off p q M M1) (k : Off p q M1 M2) : Off p q M M2 := fun a d h1 h2 e => k a d h1 h2 (h a d h1 h2 e)
theorem Off.p {p q : Addr} {M M1 : Ms} {c : Cell} (h : Off p q M M1) : Off p q M (mup M1 p c) := fun a d h1 h2 e => by rw [mup_ne h1]; exact h a d h1 h2 e
theorem Off.q {p q : Addr} {M M1 : Ms} {c : Cell} (h : Off p q M M1) : Off p q M (mup M1 q c) := fun a d h1 h2 e => by rw [mup_ne h2]; exact h a d h1 h2 e
theorem Off.sub {p q : Addr} {M M1 M2 : Ms} (h : Off p q M M1) (k : Sub M1 M2) : Off p q M M2 := fun a d h1 h2 e => k a d (h a d h1 h2 e)
theorem Off.put {p q r : Addr} {M M1 : Ms} {c : Cell} (h : Off p q M M1) (hr : M r = none) : Off p q M (mup M1 r c) := fun a d h1 h2 e => by rw [mup_ne (ne_of_new e hr)]; exact h a d h1 h2 e
theorem Off.at {p q r : Addr} {M M1 : Ms} {c : Cell} (h : Off p q M M1) (h1 : r ≠ p) (h2 : r ≠ q) (e : M r = some c) : M1 r = some c := h r c h1 h2 e
theorem LPot.sub {p q : Addr} {b : Nat} {M M1 : Ms} (h : LPot p q b M) (k : Sub M M1) : LPot p q b M1 := by
  obtain ⟨hne, ⟨t, c, hp, hc⟩, own, hq⟩ := h
  exact ⟨hne, ⟨t, c, k _ _ hp, hc⟩, own, k _ _ hq⟩
theorem LPot.up {p q : Addr} {b b' : Nat} {M : Ms} (h : LPot p q b M) (k : b ≤ b') : LPot p q b' M := by
  obtain ⟨hne, ⟨t, c, hp, hc⟩, own, hq⟩ := h
  exact ⟨hne, ⟨t, c, hp, by omega⟩, own, hq⟩
theorem LPot.nep {p q r : Addr} {b : Nat} {M : Ms} (h : LPot p q b M) (hr : M r = none) : r ≠ p := by
  obtain ⟨_, ⟨t, c, hp, _⟩, _⟩ := h
  exact (ne_of_new hp hr).symm
theorem LPot.neq {p q r : Addr} {b : Nat} {M : Ms} (h : LPot p q b M) (hr : M r = none) : r ≠ q := by
  obtain ⟨_, _, own, hq⟩ := h
  exact (ne_of_new hq hr).symm
theorem LPot.put {p q r : Addr} {b : Nat} {M : Ms} {c : Cell} (h : LPot p q b M) (h1 : r ≠ p) (h2 : r ≠ q) : LPot p q b (mup M r c) := by
  obtain ⟨hne, ⟨t, c', hp, hc⟩, own, hq⟩ := h
  exact ⟨hne, ⟨t, c', by rw [mup_ne h1.symm]; exact hp, hc⟩, own, by rw [mup_ne h2.symm]; exact hq⟩
end Law
namespace Law
open PySem L2 HC PyProof.Rows
structure Szs where
  par : Nat
  size : Nat
  rows : Nat
  width : Nat
  spares : Nat
def Szs.d (z : Szs) : Dv := .tup [dn z.par, dn z.size, dn z.rows, dn z.width, dn z.spares]
structure Szs.Ok (z : Szs) : Prop where
  p1 : 1 ≤ z.par
  p2 : z.par ≤ 2
  z1 : 1 ≤ z.size
  z2 : z.size ≤ 16
  r1 : 1 ≤ z.rows
  r2 : z.rows ≤ 24
  w1 : z.par + 1 ≤ z.width
  w2 : z.width ≤ 10
  sp : z.spares ≤ 9
end Law
namespace Law
open PySem L2 HC PyProof.Rows
def setD (ds : List Disk) (d r : Nat) (o : Option Blk) : List Disk := match ds.getD d none with
  | none => ds
  | some bs => ds.set d (some (bs.set r o))
def cellD (ds : List Disk) (i r : Nat) : Option Blk := match ds.getD i none with
  | none => none
  | some bs => bs.getD r none
def lenD (ds : List Disk) (i : Nat) : Option Nat := (ds.getD i none).map List.length
theorem setCell_eq (s : Store) (d r : Nat) (o : Option Blk) : s.setCell d r o = ⟨s.head, setD s.disks d r o, s.journal⟩ := by
  unfold Store.setCell setD
  cases s.disks.getD d none <;> rfl
variable {ds : List Disk} {d r i q : Nat} {o : Option Blk}
theorem getD_setA {α : Type} {xs : List α} {j k : Nat} {x y : α} : (xs.set j x).getD k y = if j = k ∧ j < xs.length then x else xs.getD k y := by
  rw [List.getD_eq_getElem?_getD, List.getElem?_set, List.getD_eq_getElem?_getD]
  by_cases e : j = k
  · subst e
    by_cases h : j < xs.length
    · rw [if_pos rfl, if_pos h, if_pos ⟨rfl, h⟩]; rfl
    · rw [if_pos rfl, if_neg h, if_neg (fun q => h q.2), List.getElem?_eq_none (by omega)]
  · rw [if_neg e, if_neg (fun q => e q.1)]
theorem some_lt {bs : List (Option Blk)} (h : ds.getD d none = some bs) : d < ds.length := by
  by_cases hd : d < ds.length
  · exact hd
  · rw [List.getD_eq_getElem?_getD, List.getElem?_eq_none (by omega)] at h
    cases h
theorem setD_len : (setD ds d r o).length = ds.length := by
  unfold setD
  cases ds.getD d none <;> simp
theorem setD_lenD : lenD (setD ds d r o) i = lenD ds i := by
  unfold lenD setD
  cases h : ds.getD d none with
  | none => rfl
  | some bs =>
    show ((ds.set d (some (bs.set r o))).getD i none).map List.length = _
    rw [getD_setA]
    by_cases e : d = i
    · subst e
      rw [if_pos ⟨rfl, some_lt h⟩, h]
      simp
    · rw [if_neg (fun q => e q.1)]
theorem setD_ne (h : i ≠ d ∨ q ≠ r) : cellD (setD ds d r o) i q = cellD ds i q := by
  unfold cellD setD
  cases e : ds.getD d none with
  | none => rfl
  | some bs =>
    show (match (ds.set d (some (bs.set r o))).getD i none with | none => none | some bs => bs.getD q none) = _
    rw [getD_setA]
    by_cases ei : d = i
    · subst ei
      rw [if_pos ⟨rfl, some_lt e⟩, e]
      show (bs.set r o).getD q none = bs.getD q none
      rw [getD_setA, if_neg]
      rintro ⟨a, b⟩
      rcases h with h | h
      · exact h rfl
      · exact h a.symm
    · rw [if_neg (fun q => ei q.1)]
theorem setD_eq {n : Nat} (h : lenD ds d = some n) (hr : r < n) : cellD (setD ds d r o) d r = o := by
  unfold lenD at h
  unfold cellD setD
  cases e : ds.getD d none with
  | none => rw [e] at h; cases h
  | some bs =>
    rw [e] at h
    have hl : bs.length = n := by cases h; rfl
    show (match (ds.set d (some (bs.set r o))).getD d none with | none => none | some bs => bs.getD r none) = _
    rw [getD_setA, if_pos ⟨rfl, some_lt e⟩]
    show (bs.set r o).getD r none = o
    rw [getD_setA, if_pos ⟨rfl, by omega⟩]
theorem setD_ok {z rows : Nat} (h : ∀ k ∈ ds, DiskOk k z rows) (ho : ∀ b, o = some b → BlkOk' b z) : ∀ k ∈ setD ds d r o, DiskOk k z rows := by
  unfold setD
  cases e : ds.getD d none with
  | none => exact h
  | some bs =>
    have hd := some_lt e
    intro k hk
    have hk : k ∈ ds.set d (some (bs.set r o)) := hk
    rcases List.mem_or_eq_of_mem_set hk with hk | rfl
    · exact h k hk
    · have hm : some bs ∈ ds := by
        rw [List.getD_eq_getElem?_getD, List.getElem?_eq_getElem hd] at e
        have e : ds[d] = some bs := e
        rw [← e]; exact List.getElem_mem hd
      intro cs ec
      cases ec
      obtain ⟨h1, h2⟩ := h _ hm bs rfl
      refine ⟨by rw [List.length_set]; exact h1, fun p hp b eb => ?_⟩
      rcases List.mem_or_eq_of_mem_set hp with hp | rfl
      · exact h2 p hp b eb
      · exact ho b eb
def blkF (ds : List Disk) (xs : List BN) : List Disk := xs.foldl (fun ds x => setD ds x.1 x.2.1 (some x.2.2)) ds
end Law
namespace Law
open PySem L2 HC PyProof.Rows
def cutB (z : Nat) (flat : Blk) (i : Nat) : Blk := (flat.drop (i * z)).take z
def dataR (z k : Nat) (flat : Blk) (r : Nat) : List Blk := (List.range k).map fun j => cutB z flat (r * k + j)
def rowF (p z k : Nat) (flat : Blk) (r : Nat) : List Blk := dataR z k flat r ++ parB p z (dataR z k flat r)
variable {z k : Nat} {flat : Blk}
end Law
namespace Law
open PySem L2 HC PyProof.Rows
structure Agree (s : Store) (fs : List (List Blk)) : Prop where
  len : fs.length = s.head.rows
  row : ∀ r, r < s.head.rows → ∃ as : List Blk, fs.getD r [] = as ++ parB s.head.par s.head.size as ∧ as.length + s.head.par = s.wide r ∧ WfR s.head.size as
  cell : ∀ r, r < s.head.rows → ∀ j, j < s.wide r → s.cell ((r + j) % s.wide r) r = none ∨ s.cell ((r + j) % s.wide r) r = some ((fs.getD r []).getD j [])
theorem row_get {s : Store} {r j : Nat} (hj : j < s.wide r) : (s.row r).getD j none = s.cell ((r + j) % s.wide r) r := by
  unfold Store.row
  rw [List.getD_eq_getElem?_getD, List.getElem?_map, List.getElem?_range hj]
  rfl
theorem Agree.told {s : Store} {fs : List (List Blk)} (a : Agree s fs) (ok : s.Ok) {r : Nat} (hr : r < s.head.rows) (hn : noneN (s.row r) ≤ s.head.par) :
    dataTold s.head.par s.head.size (s.row r) ++ parB s.head.par s.head.size (dataTold s.head.par s.head.size (s.row r)) = fs.getD r [] := by
  obtain ⟨as, e, l, w⟩ := a.row r hr
  have p1 := ok.head.par1
  have p2 := ok.head.par2
  have wt := ok.wide_ten r
  have rl : (s.row r).length = s.wide r := Store.row_len
  have hk := noneN_known (s.row r)
  have hd : Hides s.head.par s.head.size as (s.row r) := by
    refine ⟨by rw [rl, ← l], fun i b hb => ?_⟩
    have hi : i < s.wide r := by
      by_cases q : i < s.wide r
      · exact q
      · rw [List.getD_eq_getElem?_getD, List.getElem?_eq_none (by omega)] at hb
        cases hb
    rw [row_get hi] at hb
    rcases a.cell r hr i hi with h | h
    · rw [h] at hb; cases hb
    · rw [h] at hb
      rw [← e]
      cases hb
      rfl
  rw [dataTold_code p1 p2 w (by omega) hd (by omega), e]
theorem Agree.less {s t : Store} {fs : List (List Blk)} (a : Agree s fs) (h1 : t.head.par = s.head.par) (h2 : t.head.size = s.head.size) (h3 : t.head.rows = s.head.rows) (h4 : ∀ r, t.wide r = s.wide r)
    (h5 : ∀ i r, t.cell i r = none ∨ t.cell i r = s.cell i r) : Agree t fs := by
  refine ⟨by rw [h3]; exact a.len, fun r hr => ?_, fun r hr j hj => ?_⟩
  · rw [h1, h2, h4]
    exact a.row r (h3 ▸ hr)
  · rw [h4] at hj ⊢
    rcases h5 ((r + j) % s.wide r) r with h | h
    · exact .inl h
    · rw [h]
      exact a.cell r (h3 ▸ hr) j hj
theorem ok_bad {s : Store} (ok : s.Ok) (hj : s.journal = []) (d r : Nat) : (applyC s (.bad d r)).Ok ∧ (applyC s (.bad d r)).journal = [] := by
  show (s.setCell d r none).Ok ∧ (s.setCell d r none).journal = []
  rw [setCell_eq]
  refine ⟨⟨?_, setD_ok ok.disks (fun b e => by cases e), fun i n h => ?_⟩, hj⟩
  · show s.head.Ok (setD s.disks d r none).length
    rw [setD_len]; exact ok.head
  · have h : s.journal[i]? = some n := h
    rw [hj] at h
    simp at h
theorem agree_bad {s : Store} {fs : List (List Blk)} (a : Agree s fs) (d r : Nat) : Agree (applyC s (.bad d r)) fs := by
  show Agree (s.setCell d r none) fs
  rw [setCell_eq]
  refine a.less rfl rfl rfl (fun _ => rfl) fun i q => ?_
  show cellD (setD s.disks d r none) i q = none ∨ cellD (setD s.disks d r none) i q = cellD s.disks i q
  by_cases h : i = d ∧ q = r
  · obtain ⟨rfl, rfl⟩ := h
    cases e : lenD s.disks i with
    | none =>
      right
      have e2 : s.disks.getD i none = none := by
        unfold lenD at e
        cases e3 : s.disks.getD i none with
        | none => rfl
        | some bs => rw [e3] at e; cases e
      unfold setD
      rw [e2]
    | some n =>
      by_cases hq : q < n
      · exact .inl (setD_eq e hq)
      · left
        have e2 := setD_lenD (ds := s.disks) (d := i) (r := q) (o := none) (i := i)
        rw [e] at e2
        unfold cellD
        unfold lenD at e2
        cases e3 : (setD s.disks i q none).getD i none with
        | none => rfl
        | some bs =>
          rw [e3] at e2
          have e2 : some bs.length = some n := e2
          cases e2
          show bs.getD q none = none
          rw [List.getD_eq_getElem?_getD, List.getElem?_eq_none (by omega)]
          rfl
  · exact .inr (setD_ne (by omega))
theorem ok_set {s : Store} (ok : s.Ok) (hj : s.journal = []) {h : Head} (hh : h.Ok s.disks.length) (h2 : h.size = s.head.size) (h3 : h.rows = s.head.rows) (d : Nat) {k : Disk} (hk : DiskOk k s.head.size s.head.rows) : (⟨h, s.disks.set d k, s.journal⟩ : Store).Ok := by
  refine ⟨by show h.Ok (s.disks.set d k).length; rw [List.length_set]; exact hh, fun x hx => ?_, fun i n e => ?_⟩
  · show DiskOk x h.size h.rows
    rw [h2, h3]
    rcases List.mem_or_eq_of_mem_set hx with hx | rfl
    · exact ok.disks x hx
    · exact hk
  · have e : s.journal[i]? = some n := e
    rw [hj] at e
    simp at e
theorem cell_set {ds : List Disk} {d i q : Nat} {k : Disk} (hk : ∀ bs, k = some bs → ∀ o ∈ bs, o = none) : cellD (ds.set d k) i q = none ∨ cellD (ds.set d k) i q = cellD ds i q := by
  unfold cellD
  rw [getD_setA]
  by_cases e : d = i ∧ d < ds.length
  · rw [if_pos e]
    left
    cases k with
    | none => rfl
    | some bs =>
      show bs.getD q none = none
      rw [List.getD_eq_getElem?_getD]
      cases e2 : bs[q]? with
      | none => rfl
      | some o => exact hk bs rfl o (List.mem_of_getElem? e2)
  · rw [if_neg e]
    exact .inr rfl
theorem ok_lose {s : Store} (ok : s.Ok) (hj : s.journal = []) (d : Nat) : (applyC s (.lose d)).Ok := ok_set ok hj ok.head rfl rfl d (fun _ e => by cases e)
theorem agree_lose {s : Store} {fs : List (List Blk)} (a : Agree s fs) (d : Nat) : Agree (applyC s (.lose d)) fs :=
  a.less rfl rfl rfl (fun _ => rfl) fun i q => cell_set (ds := s.disks) (d := d) (k := none) fun _ e => by cases e
theorem less_ok {h : Head} {n : Nat} (ok : h.Ok n) : (lessH h).Ok n := ⟨ok.par1, ok.par2, ok.size1, ok.size2, ok.rows1, ok.rows2, ok.width1, ok.width2, ok.many, by
  have := ok.sp
  show h.spares - 1 ≤ 1000000
  omega⟩
theorem fresh_disk {h : Head} : DiskOk (freshK h) h.size h.rows := fun bs e => by
  unfold freshK at e
  cases e
  refine ⟨by simp, fun o ho b eb => ?_⟩
  rw [(List.mem_replicate.mp ho).2] at eb
  cases eb
theorem ok_spare {s : Store} (ok : s.Ok) (hj : s.journal = []) (d : Nat) : (applyC s (.spare d)).Ok := ok_set ok hj (less_ok ok.head) rfl rfl d fresh_disk
theorem agree_spare {s : Store} {fs : List (List Blk)} (a : Agree s fs) (d : Nat) : Agree (applyC s (.spare d)) fs :=
  a.less rfl rfl rfl (fun _ => rfl) fun i q => cell_set (ds := s.disks) (d := d) (k := freshK s.head) fun bs e o ho => by
    unfold freshK at e
    cases e
    exact (List.mem_replicate.mp ho).2
end Law
namespace Law
open PySem L2 HC PyProof.Rows
def Szs.s0 (z : Szs) : Store := newS z.par z.size z.rows z.width z.spares
def Szs.k (z : Szs) : Nat := z.width - z.par
variable {z : Szs} {flat : Blk}
def Szs.fs (z : Szs) (flat : Blk) : List (List Blk) := (List.range z.rows).map fun r => rowF z.par z.size z.k flat r
def Szs.s1 (z : Szs) (flat : Blk) : Store := ⟨z.s0.head, blkF z.s0.disks (z.s0.notesW 0 flat), []⟩
end Law
namespace Law
open PySem L2 HC PyProof.Rows
variable {z : Szs} {flat : Blk}
end Law
namespace Law
open PySem L2 HC PyProof.Rows
end Law
namespace Law
open PySem L2 HC PyProof.Rows
structure Whole (s : Store) (fs : List (List Blk)) : Prop where
  agree : Agree s fs
  full : ∀ r, r < s.head.rows → ∀ j, j < s.wide r → s.cell ((r + j) % s.wide r) r = some ((fs.getD r []).getD j [])
variable {z : Szs} {flat : Blk}
theorem cut_nat (xs : List Dv) (lo hi : Nat) (h2 : lo ≤ hi) : cutA xs (some (lo : Int)) (some (hi : Int)) = (xs.drop lo).take (hi - lo) := by
  by_cases h : lo ≤ xs.length
  · exact cut_mid xs lo hi h h2
  · unfold cutA
    rw [HT.sIx_nat, HT.sIx_nat, Nat.min_eq_right (by omega), Nat.min_eq_right (by omega), Nat.sub_self, List.take_zero, List.drop_eq_nil_of_le (by omega)]
    simp
def padB (z : Nat) (flat : Blk) (b : Nat) : Blk := cutB z flat b ++ List.replicate (z - (cutB z flat b).length) 0
def dataG (z k : Nat) (flat : Blk) (r m : Nat) : List Blk := (List.range m).map fun j => padB z flat (r * k + j)
def Szs.rowG (z : Szs) (flat : Blk) (r : Nat) : List Blk := dataG z.size (z.k + 1) flat r (z.k + 1) ++ parB z.par z.size (dataG z.size (z.k + 1) flat r (z.k + 1))
def Szs.blkG (z : Szs) (flat : Blk) (r n : Nat) : List BN := (List.range n).map fun j => ((r + j) % (z.width + 1), r, (z.rowG flat r).getD j [])
def Szs.notesG (z : Szs) (flat : Blk) (m : Nat) : List BN := (List.range m).flatMap fun r => z.blkG flat r (z.width + 1)
def Szs.s2 (z : Szs) (flat : Blk) (m : Nat) : Store := ⟨⟨z.par, z.size, z.rows, z.width, m, z.spares - 1⟩, blkF ((z.s1 flat).disks ++ [freshK z.s0.head]) (z.notesG flat m), []⟩
end Law
namespace Law
open PySem L2 HC PyProof.Rows
variable {z : Szs} {flat : Blk}
theorem setD_getD {ds : List Disk} {d r i : Nat} {o : Option Blk} (h : i ≠ d) : (setD ds d r o).getD i none = ds.getD i none := by
  unfold setD
  cases ds.getD d none with
  | none => rfl
  | some bs =>
    show (ds.set d _).getD i none = _
    rw [getD_setA, if_neg (fun q => h q.1.symm)]
theorem set_getD {ds : List Disk} {d i : Nat} {k : Disk} (h : i ≠ d) : (ds.set d k).getD i none = ds.getD i none := by
  rw [getD_setA, if_neg (fun q => h q.1.symm)]
structure Few (s t : Store) (T : List Nat) : Prop where
  ok : t.Ok
  j : t.journal = []
  ag : ∀ fs, Agree s fs → Agree t fs
  rows : t.head.rows = s.head.rows
  par : t.head.par = s.head.par
  size : t.head.size = s.head.size
  wide : ∀ r, t.wide r = s.wide r
  len : t.disks.length = s.disks.length
  rest : ∀ x, x ∉ T → t.disks.getD x none = s.disks.getD x none
theorem Few.refl {s : Store} (ok : s.Ok) (hj : s.journal = []) : Few s s [] := ⟨ok, hj, fun _ h => h, rfl, rfl, rfl, fun _ => rfl, rfl, fun _ _ => rfl⟩
theorem Few.more {s t : Store} {T : List Nat} (h : Few s t T) (d : Nat) : Few s t (d :: T) := ⟨h.ok, h.j, h.ag, h.rows, h.par, h.size, h.wide, h.len, fun x hx => h.rest x fun q => hx (List.mem_cons_of_mem _ q)⟩
theorem Few.lose {s t : Store} {T : List Nat} (h : Few s t T) {d : Nat} (hd : d ∈ T) : Few s (applyC t (.lose d)) T :=
  ⟨ok_lose h.ok h.j d, h.j, fun fs a => agree_lose (h.ag fs a) d, h.rows, h.par, h.size, h.wide, by show (t.disks.set d none).length = _; rw [List.length_set]; exact h.len,
    fun x hx => by show (t.disks.set d none).getD x none = _; rw [set_getD (show x ≠ d from fun e => hx (by rw [e]; exact hd))]; exact h.rest x hx⟩
theorem Few.spare {s t : Store} {T : List Nat} (h : Few s t T) {d : Nat} (hd : d ∈ T) : Few s (applyC t (.spare d)) T :=
  ⟨ok_spare h.ok h.j d, h.j, fun fs a => agree_spare (h.ag fs a) d, h.rows, h.par, h.size, h.wide, by show (t.disks.set d _).length = _; rw [List.length_set]; exact h.len,
    fun x hx => by show (t.disks.set d _).getD x none = _; rw [set_getD (show x ≠ d from fun e => hx (by rw [e]; exact hd))]; exact h.rest x hx⟩
theorem Few.bad {s t : Store} {T : List Nat} (h : Few s t T) {d : Nat} (r : Nat) (hd : d ∈ T) : Few s (applyC t (.bad d r)) T := by
  have e : applyC t (.bad d r) = ⟨t.head, setD t.disks d r none, t.journal⟩ := setCell_eq t d r none
  have h1 := ok_bad h.ok h.j d r
  have h2 := fun fs a => agree_bad (h.ag fs a) d r
  rw [e] at h1 h2 ⊢
  refine ⟨h1.1, h1.2, h2, h.rows, h.par, h.size, h.wide, setD_len.trans h.len, fun x hx => ?_⟩
  show (setD t.disks d r none).getD x none = _
  rw [setD_getD (show x ≠ d from fun e => hx (by rw [e]; exact hd))]
  exact h.rest x hx
end Law
namespace Law
open PySem L2 HC PyProof.Rows
end Law
namespace Law
open PySem L2 HC PyProof.Rows
set_option maxHeartbeats 1000000
local macro_rules | `(tactic| infer_instance) => `(tactic| (first | exact True.intro | omega | assumption | decide | (dsimp only; omega) | exact lt_line (by omega) | exact le_line (by omega) | exact lt_line (by simp <;> omega) | exact le_line (by simp <;> omega) | exact ⟨by decide, by decide, by decide⟩ | exact ⟨by omega, by omega, by omega⟩ | exact List.cons_ne_nil _ _ | exact CMul_l (by omega) | exact CMul_r (by omega) | exact tyM_list (by (first | exact mup_same | assumption | (exact look_new (by assumption) (by assumption)) | (exact look_new (look_new (by assumption) (by assumption)) (by assumption)))) | (first | exact mup_same | assumption | (exact look_new (by assumption) (by assumption)) | (exact look_new (look_new (by assumption) (by assumption)) (by assumption))) | (simp only [List.length_cons, List.length_nil, List.length_map, List.length_replicate, List.length_append, rangeA_len] <;> omega)))
local macro_rules | `(tactic| decreasing_tactic) => `(tactic| ((conv => whnf); repeat (first | (refine And.intro (by infer_instance) ?_; (conv => whnf)) | (refine And.intro (by infer_instance) fun _ hr => fz_new hr ?_; (conv => whnf)) | (refine fun _ hr => fz_new hr ?_; (conv => whnf)) | (refine onIf_ndecF (by with_reducible rfl) ?_; (conv => whnf)) | (refine onIf_decT (by with_reducible rfl) ?_; (conv => whnf)) | (refine onIf_decT (by omega) ?_; (conv => whnf)) | (refine onIf_decF (by omega) ?_; (conv => whnf)) | (refine onIf_ndecT (by omega) ?_; (conv => whnf)) | (refine onIf_ndecF (by omega) ?_; (conv => whnf)) | (refine onIf_decT (congrArg Dv.int (by omega)) ?_; (conv => whnf)) | (refine onIf_decF (fun h => absurd (Dv.int.inj h) (by omega)) ?_; (conv => whnf)) | (refine onIf_ndecT (fun h => absurd (Dv.int.inj h) (by omega)) ?_; (conv => whnf)) | (refine onIf_ndecF (congrArg Dv.int (by omega)) ?_; (conv => whnf)) | (refine ⟨_, (by (first | exact kit_ii | exact kit_ib | exact kit_it | exact kit_is | exact kit_bi | exact kit_bb | exact kit_bt | exact kit_bs | exact kit_ti | exact kit_tb | exact kit_tt | exact kit_ts | exact kit_si | exact kit_sb | exact kit_st | exact kit_ss | exact kit_ni | exact kit_nb | exact kit_nt | exact kit_ns | exact kit_li | exact kit_lb | exact kit_lt | exact kit_ls)), ?_⟩; (conv => whnf)) | (refine onS_of (itemsA_l (by (first | exact mup_same | assumption | (exact look_new (by assumption) (by assumption)) | (exact look_new (look_new (by assumption) (by assumption)) (by assumption))))) ?_; (conv => whnf)) | (refine onS_of (lstA_l (by (first | exact mup_same | assumption | (exact look_new (by assumption) (by assumption)) | (exact look_new (look_new (by assumption) (by assumption)) (by assumption))))) ?_; (conv => whnf)) | (refine onS_of (lstC_l (by (first | exact mup_same | assumption | (exact look_new (by assumption) (by assumption)) | (exact look_new (look_new (by assumption) (by assumption)) (by assumption))))) ?_; (conv => whnf)) | (refine onS_of (lenA_l (by (first | exact mup_same | assumption | (exact look_new (by assumption) (by assumption)) | (exact look_new (look_new (by assumption) (by assumption)) (by assumption))))) ?_; (conv => whnf)))))
theorem sc_law_next : FnScope [("_law_pot_here" : Str), ("_law_many" : Str), ("_law_drawn" : Str), ("_law_mixed" : Str)] [("_law_pot_here" : Str), ("_law_many" : Str)] (defScope s_law_next) := ⟨rfl, rfl, rfl, by decide +kernel, rfl, by decide +kernel, by decide +kernel⟩
theorem sc_law_one_of : FnScope [("_law_pot_here" : Str), ("_law_some" : Str)] [("_law_pot_here" : Str), ("_law_some" : Str)] (defScope s_law_one_of) := ⟨rfl, rfl, rfl, by decide +kernel, rfl, by decide +kernel, by decide +kernel⟩
theorem sc_law_bad_block : FnScope [("_law_pot_here" : Str), ("_law_some" : Str)] [("_law_pot_here" : Str)] (defScope s_law_bad_block) := ⟨rfl, rfl, rfl, by decide +kernel, rfl, by decide +kernel, by decide +kernel⟩
theorem sc_law_bad_number : FnScope [("_law_pot_here" : Str)] [("_law_pot_here" : Str)] (defScope s_law_bad_number) := ⟨rfl, rfl, rfl, by decide +kernel, rfl, by decide +kernel, by decide +kernel⟩
theorem sc_law_bad_row : FnScope [("_law_pot_here" : Str), ("_law_row" : Str), ("_law_words" : Str), ("_law_some" : Str), ("_law_at" : Str), ("_law_short" : Str)] [("_law_pot_here" : Str), ("_law_row" : Str)] (defScope s_law_bad_row) := ⟨rfl, rfl, rfl, by decide +kernel, rfl, by decide +kernel, by decide +kernel⟩
abbrev N_law_block : List Str := [("_law_pot_here" : Str), ("_law_size" : Str), ("_law_first" : Str), ("_law_step" : Str), ("_law_k" : Str)]
theorem sc_law_block : FnScope [("_law_pot_here" : Str), ("_law_size" : Str), ("_law_first" : Str), ("_law_step" : Str), ("_law_k" : Str)] [("_law_pot_here" : Str), ("_law_size" : Str)] (defScope s_law_block) := ⟨rfl, rfl, rfl, by decide +kernel, rfl, by decide +kernel, by decide +kernel⟩
theorem sc_law_count : FnScope [("_law_pot_here" : Str), ("_law_most" : Str), ("_law_great" : Str)] [("_law_pot_here" : Str), ("_law_most" : Str), ("_law_great" : Str)] (defScope s_law_count) := ⟨rfl, rfl, rfl, by decide +kernel, rfl, by decide +kernel, by decide +kernel⟩
theorem sc_law_disk : FnScope [("_law_pot_here" : Str), ("_law_head_here" : Str), ("_law_blocks" : Str), ("_law_row" : Str), ("_law_block_here" : Str)] [("_law_pot_here" : Str), ("_law_head_here" : Str)] (defScope s_law_disk) := ⟨rfl, rfl, rfl, by decide +kernel, rfl, by decide +kernel, by decide +kernel⟩
theorem sc_law_head : FnScope [("_law_pot_here" : Str), ("_law_parities" : Str), ("_law_size" : Str), ("_law_rows_here" : Str), ("_law_width" : Str), ("_law_grows" : Str), ("_law_moved" : Str), ("_law_head_here" : Str)] [("_law_pot_here" : Str)] (defScope s_law_head) := ⟨rfl, rfl, rfl, by decide +kernel, rfl, by decide +kernel, by decide +kernel⟩
theorem sc_law_pot : FnScope [("_law_script" : Str), ("_law_seed" : Str), ("_law_own" : Str), ("_law_cell" : Str)] [("_law_script" : Str)] (defScope s_law_pot) := ⟨rfl, rfl, rfl, by decide +kernel, rfl, by decide +kernel, by decide +kernel⟩
theorem sc_Draft___init__ : FnScope [("self" : Str)] [("self" : Str)] (defScope s_Draft___init__) := ⟨rfl, rfl, rfl, by decide +kernel, rfl, by decide +kernel, by decide +kernel⟩
abbrev N_block_in : List Str := [("word" : Str), ("spots" : Str), ("sign" : Str), ("one" : Str), ("other" : Str)]
theorem sc_block_in : FnScope [("word" : Str), ("spots" : Str), ("sign" : Str), ("one" : Str), ("other" : Str)] [("word" : Str)] (defScope s_block_in) := ⟨rfl, rfl, rfl, by decide +kernel, rfl, by decide +kernel, by decide +kernel⟩
abbrev N_is_block_text : List Str := [("word" : Str), ("sign" : Str)]
theorem sc_is_block_text : FnScope [("word" : Str), ("sign" : Str)] [("word" : Str)] (defScope s_is_block_text) := ⟨rfl, rfl, rfl, by decide +kernel, rfl, by decide +kernel, by decide +kernel⟩
abbrev N_Draft_put_disk : List Str := [("self" : Str), ("words" : Str), ("word" : Str)]
theorem sc_Draft_put_disk : FnScope [("self" : Str), ("words" : Str), ("word" : Str)] [("self" : Str), ("words" : Str)] (defScope s_Draft_put_disk) := ⟨rfl, rfl, rfl, by decide +kernel, rfl, by decide +kernel, by decide +kernel⟩
abbrev N_number_in : List Str := [("word" : Str), ("sign" : Str)]
theorem sc_number_in : FnScope [("word" : Str), ("sign" : Str)] [("word" : Str)] (defScope s_number_in) := ⟨rfl, rfl, rfl, by decide +kernel, rfl, by decide +kernel, by decide +kernel⟩
abbrev N_numbers_in : List Str := [("words" : Str), ("many" : Str), ("numbers" : Str), ("word" : Str)]
theorem sc_numbers_in : FnScope [("words" : Str), ("many" : Str), ("numbers" : Str), ("word" : Str)] [("words" : Str), ("many" : Str)] (defScope s_numbers_in) := ⟨rfl, rfl, rfl, by decide +kernel, rfl, by decide +kernel, by decide +kernel⟩
theorem sc_Draft_put_head : FnScope [("self" : Str), ("words" : Str)] [("self" : Str), ("words" : Str)] (defScope s_Draft_put_head) := ⟨rfl, rfl, rfl, by decide +kernel, rfl, by decide +kernel, by decide +kernel⟩
theorem sc_Draft_put_note : FnScope [("self" : Str), ("words" : Str), ("numbers" : Str)] [("self" : Str), ("words" : Str)] (defScope s_Draft_put_note) := ⟨rfl, rfl, rfl, by decide +kernel, rfl, by decide +kernel, by decide +kernel⟩
theorem sc_Draft_put : FnScope [("self" : Str), ("row" : Str), ("words" : Str)] [("self" : Str), ("row" : Str)] (defScope s_Draft_put) := ⟨rfl, rfl, rfl, by decide +kernel, rfl, by decide +kernel, by decide +kernel⟩
theorem sc_Draft_whole : FnScope [("self" : Str)] [("self" : Str)] (defScope s_Draft_whole) := ⟨rfl, rfl, rfl, by decide +kernel, rfl, by decide +kernel, by decide +kernel⟩
theorem sc_is_whole : FnScope [("thing" : Str)] [("thing" : Str)] (defScope s_is_whole) := ⟨rfl, rfl, rfl, by decide +kernel, rfl, by decide +kernel, by decide +kernel⟩
theorem sc_is_between : FnScope [("thing" : Str), ("low" : Str), ("high" : Str)] [("thing" : Str), ("low" : Str), ("high" : Str)] (defScope s_is_between) := ⟨rfl, rfl, rfl, by decide +kernel, rfl, by decide +kernel, by decide +kernel⟩
abbrev N_is_block : List Str := [("thing" : Str), ("size" : Str), ("one" : Str)]
theorem sc_is_block : FnScope [("thing" : Str), ("size" : Str), ("one" : Str)] [("thing" : Str), ("size" : Str)] (defScope s_is_block) := ⟨rfl, rfl, rfl, by decide +kernel, rfl, by decide +kernel, by decide +kernel⟩
abbrev N_is_disk : List Str := [("thing" : Str), ("size" : Str), ("rows" : Str), ("one" : Str)]
theorem sc_is_disk : FnScope [("thing" : Str), ("size" : Str), ("rows" : Str), ("one" : Str)] [("thing" : Str), ("size" : Str), ("rows" : Str)] (defScope s_is_disk) := ⟨rfl, rfl, rfl, by decide +kernel, rfl, by decide +kernel, by decide +kernel⟩
theorem sc_are_widths : FnScope [("width" : Str), ("moved" : Str), ("head" : Str), ("many" : Str), ("parities" : Str), ("rows" : Str)] [("width" : Str), ("moved" : Str), ("head" : Str), ("many" : Str)] (defScope s_are_widths) := ⟨rfl, rfl, rfl, by decide +kernel, rfl, by decide +kernel, by decide +kernel⟩
theorem sc_is_head : FnScope [("thing" : Str), ("many" : Str)] [("thing" : Str), ("many" : Str)] (defScope s_is_head) := ⟨rfl, rfl, rfl, by decide +kernel, rfl, by decide +kernel, by decide +kernel⟩
theorem sc_is_note : FnScope [("thing" : Str), ("at" : Str), ("head" : Str), ("many" : Str)] [("thing" : Str), ("at" : Str), ("head" : Str), ("many" : Str)] (defScope s_is_note) := ⟨rfl, rfl, rfl, by decide +kernel, rfl, by decide +kernel, by decide +kernel⟩
abbrev N_is_journal : List Str := [("thing" : Str), ("head" : Str), ("many" : Str), ("at" : Str), ("note" : Str)]
theorem sc_is_journal : FnScope [("thing" : Str), ("head" : Str), ("many" : Str), ("at" : Str), ("note" : Str)] [("thing" : Str), ("head" : Str), ("many" : Str)] (defScope s_is_journal) := ⟨rfl, rfl, rfl, by decide +kernel, rfl, by decide +kernel, by decide +kernel⟩
abbrev N_is_store : List Str := [("thing" : Str), ("head" : Str), ("disks" : Str), ("journal" : Str), ("disk" : Str)]
theorem sc_is_store : FnScope [("thing" : Str), ("head" : Str), ("disks" : Str), ("journal" : Str), ("disk" : Str)] [("thing" : Str)] (defScope s_is_store) := ⟨rfl, rfl, rfl, by decide +kernel, rfl, by decide +kernel, by decide +kernel⟩
theorem sc_read_store : FnScope [("text" : Str), ("draft" : Str), ("rows" : Str), ("number" : Str), ("row" : Str)] [("text" : Str)] (defScope s_read_store) := ⟨rfl, rfl, rfl, by decide +kernel, rfl, by decide +kernel, by decide +kernel⟩
theorem sc_law_refused : FnScope [("_law_text" : Str), ("_law_caught" : Str), ("_law_row" : Str), ("e" : Str), ("_law_others" : Str)] [("_law_text" : Str)] (defScope s_law_refused) := ⟨rfl, rfl, rfl, by decide +kernel, rfl, by decide +kernel, by decide +kernel⟩
theorem sc_law_block_text : FnScope [("_law_block_here" : Str), ("_law_signs" : Str), ("_law_made" : Str), ("_law_byte" : Str)] [("_law_block_here" : Str)] (defScope s_law_block_text) := ⟨rfl, rfl, rfl, by decide +kernel, rfl, by decide +kernel, by decide +kernel⟩
abbrev N_law_rows : List Str := [("_law_store" : Str), ("_law_head_here" : Str), ("_law_disks" : Str), ("_law_journal" : Str), ("_law_rows_here" : Str), ("_law_disk_here" : Str), ("_law_note" : Str), ("_law_one" : Str), ("_law_block_here" : Str)]
theorem sc_law_rows : FnScope [("_law_store" : Str), ("_law_head_here" : Str), ("_law_disks" : Str), ("_law_journal" : Str), ("_law_rows_here" : Str), ("_law_disk_here" : Str), ("_law_note" : Str), ("_law_one" : Str), ("_law_block_here" : Str)] [("_law_store" : Str)] (defScope s_law_rows) := ⟨rfl, rfl, rfl, by decide +kernel, rfl, by decide +kernel, by decide +kernel⟩
abbrev N_law : List Str := [("_law_script" : Str), ("_law_pot_here" : Str), ("_law_head_here" : Str), ("_law_many" : Str), ("_law_disks" : Str), ("_law_notes" : Str), ("_law_k" : Str), ("_law_store" : Str), ("_law_rows_here" : Str), ("_law_made" : Str), ("_law_due" : Str), ("_law_j" : Str), ("_law_at" : Str)]
theorem sc_law : FnScope [("_law_script" : Str), ("_law_pot_here" : Str), ("_law_head_here" : Str), ("_law_many" : Str), ("_law_disks" : Str), ("_law_notes" : Str), ("_law_k" : Str), ("_law_store" : Str), ("_law_rows_here" : Str), ("_law_made" : Str), ("_law_due" : Str), ("_law_j" : Str), ("_law_at" : Str)] [("_law_script" : Str)] (defScope s_law) := ⟨rfl, rfl, rfl, by decide +kernel, rfl, by decide +kernel, by decide +kernel⟩
theorem sci_NoText : FnScope ["self", "row"] ["self", "row"] (defScope si_NoText) := ⟨rfl, rfl, rfl, by decide +kernel, rfl, by decide +kernel, by decide +kernel⟩
set_option genInjectivity false in
set_option genSizeOf false in
set_option genSizeOfSpec false in
set_option maxHeartbeats 0 in
structure Tx (K : PySem.W.Frag) (mg : Str → Option Value) where
  n_ValueError : mg ("ValueError" : Str) = none
  n_all : mg ("all" : Str) = none
  n_bool : mg ("bool" : Str) = none
  n_enumerate : mg ("enumerate" : Str) = none
  n_int : mg ("int" : Str) = none
  n_isinstance : mg ("isinstance" : Str) = none
  n_len : mg ("len" : Str) = none
  n_list : mg ("list" : Str) = none
  n_min : mg ("min" : Str) = none
  n_range : mg ("range" : Str) = none
  n_str : mg ("str" : Str) = none
  n_tuple : mg ("tuple" : Str) = none
  n_zip : mg ("zip" : Str) = none
  c_FIGURES : ∃ t, mg ("FIGURES" : Str) = some (.str ("0123456789abcdef" : Str) t)
  c_MOST_BYTE : ∃ t, mg ("MOST_BYTE" : Str) = some (.int 255 t)
  c_MOST_DISKS : ∃ t, mg ("MOST_DISKS" : Str) = some (.int 10 t)
  c_MOST_FIGURES : ∃ t, mg ("MOST_FIGURES" : Str) = some (.int 12 t)
  c_MOST_ROWS : ∃ t, mg ("MOST_ROWS" : Str) = some (.int 24 t)
  c_MOST_SIZE : ∃ t, mg ("MOST_SIZE" : Str) = some (.int 16 t)
  f_law_next : Addr
  d_law_next : FuncData
  F_law_next : Fun K ("_law_next" : Str) ("_law_next" : Str) s_law_next f_law_next d_law_next
  m_law_next : mg ("_law_next" : Str) = some (.ref f_law_next)
  b_law_next : Binds K d_law_next [("_law_pot_here" : Str), ("_law_many" : Str)] []
  f_law_one_of : Addr
  d_law_one_of : FuncData
  F_law_one_of : Fun K ("_law_one_of" : Str) ("_law_one_of" : Str) s_law_one_of f_law_one_of d_law_one_of
  m_law_one_of : mg ("_law_one_of" : Str) = some (.ref f_law_one_of)
  b_law_one_of : Binds K d_law_one_of [("_law_pot_here" : Str), ("_law_some" : Str)] []
  f_law_bad_block : Addr
  d_law_bad_block : FuncData
  F_law_bad_block : Fun K ("_law_bad_block" : Str) ("_law_bad_block" : Str) s_law_bad_block f_law_bad_block d_law_bad_block
  m_law_bad_block : mg ("_law_bad_block" : Str) = some (.ref f_law_bad_block)
  b_law_bad_block : Binds K d_law_bad_block [("_law_pot_here" : Str)] []
  f_law_bad_number : Addr
  d_law_bad_number : FuncData
  F_law_bad_number : Fun K ("_law_bad_number" : Str) ("_law_bad_number" : Str) s_law_bad_number f_law_bad_number d_law_bad_number
  m_law_bad_number : mg ("_law_bad_number" : Str) = some (.ref f_law_bad_number)
  b_law_bad_number : Binds K d_law_bad_number [("_law_pot_here" : Str)] []
  f_law_bad_row : Addr
  d_law_bad_row : FuncData
  F_law_bad_row : Fun K ("_law_bad_row" : Str) ("_law_bad_row" : Str) s_law_bad_row f_law_bad_row d_law_bad_row
  m_law_bad_row : mg ("_law_bad_row" : Str) = some (.ref f_law_bad_row)
  b_law_bad_row : Binds K d_law_bad_row [("_law_pot_here" : Str), ("_law_row" : Str)] []
  f_law_block : Addr
  d_law_block : FuncData
  F_law_block : Fun K ("_law_block" : Str) ("_law_block" : Str) s_law_block f_law_block d_law_block
  m_law_block : mg ("_law_block" : Str) = some (.ref f_law_block)
  b_law_block : Binds K d_law_block [("_law_pot_here" : Str), ("_law_size" : Str)] []
  f_law_count : Addr
  d_law_count : FuncData
  F_law_count : Fun K ("_law_count" : Str) ("_law_count" : Str) s_law_count f_law_count d_law_count
  m_law_count : mg ("_law_count" : Str) = some (.ref f_law_count)
  b_law_count : Binds K d_law_count [("_law_pot_here" : Str), ("_law_most" : Str), ("_law_great" : Str)] []
  f_law_disk : Addr
  d_law_disk : FuncData
  F_law_disk : Fun K ("_law_disk" : Str) ("_law_disk" : Str) s_law_disk f_law_disk d_law_disk
  m_law_disk : mg ("_law_disk" : Str) = some (.ref f_law_disk)
  b_law_disk : Binds K d_law_disk [("_law_pot_here" : Str), ("_law_head_here" : Str)] []
  f_law_head : Addr
  d_law_head : FuncData
  F_law_head : Fun K ("_law_head" : Str) ("_law_head" : Str) s_law_head f_law_head d_law_head
  m_law_head : mg ("_law_head" : Str) = some (.ref f_law_head)
  b_law_head : Binds K d_law_head [("_law_pot_here" : Str)] []
  f_law_pot : Addr
  d_law_pot : FuncData
  F_law_pot : Fun K ("_law_pot" : Str) ("_law_pot" : Str) s_law_pot f_law_pot d_law_pot
  m_law_pot : mg ("_law_pot" : Str) = some (.ref f_law_pot)
  b_law_pot : Binds K d_law_pot [("_law_script" : Str)] []
  f_Draft___init__ : Addr
  d_Draft___init__ : FuncData
  F_Draft___init__ : Fun K ("__init__" : Str) ("Draft.__init__" : Str) s_Draft___init__ f_Draft___init__ d_Draft___init__
  b_Draft___init__ : Binds K d_Draft___init__ [("self" : Str)] []
  f_block_in : Addr
  d_block_in : FuncData
  F_block_in : Fun K ("block_in" : Str) ("block_in" : Str) s_block_in f_block_in d_block_in
  m_block_in : mg ("block_in" : Str) = some (.ref f_block_in)
  b_block_in : Binds K d_block_in [("word" : Str)] []
  f_is_block_text : Addr
  d_is_block_text : FuncData
  F_is_block_text : Fun K ("is_block_text" : Str) ("is_block_text" : Str) s_is_block_text f_is_block_text d_is_block_text
  m_is_block_text : mg ("is_block_text" : Str) = some (.ref f_is_block_text)
  b_is_block_text : Binds K d_is_block_text [("word" : Str)] []
  f_Draft_put_disk : Addr
  d_Draft_put_disk : FuncData
  F_Draft_put_disk : Fun K ("put_disk" : Str) ("Draft.put_disk" : Str) s_Draft_put_disk f_Draft_put_disk d_Draft_put_disk
  b_Draft_put_disk : Binds K d_Draft_put_disk [("self" : Str), ("words" : Str)] []
  f_number_in : Addr
  d_number_in : FuncData
  F_number_in : Fun K ("number_in" : Str) ("number_in" : Str) s_number_in f_number_in d_number_in
  m_number_in : mg ("number_in" : Str) = some (.ref f_number_in)
  b_number_in : Binds K d_number_in [("word" : Str)] []
  f_numbers_in : Addr
  d_numbers_in : FuncData
  F_numbers_in : Fun K ("numbers_in" : Str) ("numbers_in" : Str) s_numbers_in f_numbers_in d_numbers_in
  m_numbers_in : mg ("numbers_in" : Str) = some (.ref f_numbers_in)
  b_numbers_in : Binds K d_numbers_in [("words" : Str), ("many" : Str)] []
  f_Draft_put_head : Addr
  d_Draft_put_head : FuncData
  F_Draft_put_head : Fun K ("put_head" : Str) ("Draft.put_head" : Str) s_Draft_put_head f_Draft_put_head d_Draft_put_head
  b_Draft_put_head : Binds K d_Draft_put_head [("self" : Str), ("words" : Str)] []
  f_Draft_put_note : Addr
  d_Draft_put_note : FuncData
  F_Draft_put_note : Fun K ("put_note" : Str) ("Draft.put_note" : Str) s_Draft_put_note f_Draft_put_note d_Draft_put_note
  b_Draft_put_note : Binds K d_Draft_put_note [("self" : Str), ("words" : Str)] []
  f_Draft_put : Addr
  d_Draft_put : FuncData
  F_Draft_put : Fun K ("put" : Str) ("Draft.put" : Str) s_Draft_put f_Draft_put d_Draft_put
  b_Draft_put : Binds K d_Draft_put [("self" : Str), ("row" : Str)] []
  f_Draft_whole : Addr
  d_Draft_whole : FuncData
  F_Draft_whole : Fun K ("whole" : Str) ("Draft.whole" : Str) s_Draft_whole f_Draft_whole d_Draft_whole
  b_Draft_whole : Binds K d_Draft_whole [("self" : Str)] []
  f_is_whole : Addr
  d_is_whole : FuncData
  F_is_whole : Fun K ("is_whole" : Str) ("is_whole" : Str) s_is_whole f_is_whole d_is_whole
  m_is_whole : mg ("is_whole" : Str) = some (.ref f_is_whole)
  b_is_whole : Binds K d_is_whole [("thing" : Str)] []
  f_is_between : Addr
  d_is_between : FuncData
  F_is_between : Fun K ("is_between" : Str) ("is_between" : Str) s_is_between f_is_between d_is_between
  m_is_between : mg ("is_between" : Str) = some (.ref f_is_between)
  b_is_between : Binds K d_is_between [("thing" : Str), ("low" : Str), ("high" : Str)] []
  f_is_block : Addr
  d_is_block : FuncData
  F_is_block : Fun K ("is_block" : Str) ("is_block" : Str) s_is_block f_is_block d_is_block
  m_is_block : mg ("is_block" : Str) = some (.ref f_is_block)
  b_is_block : Binds K d_is_block [("thing" : Str), ("size" : Str)] []
  f_is_disk : Addr
  d_is_disk : FuncData
  F_is_disk : Fun K ("is_disk" : Str) ("is_disk" : Str) s_is_disk f_is_disk d_is_disk
  m_is_disk : mg ("is_disk" : Str) = some (.ref f_is_disk)
  b_is_disk : Binds K d_is_disk [("thing" : Str), ("size" : Str), ("rows" : Str)] []
  f_are_widths : Addr
  d_are_widths : FuncData
  F_are_widths : Fun K ("are_widths" : Str) ("are_widths" : Str) s_are_widths f_are_widths d_are_widths
  m_are_widths : mg ("are_widths" : Str) = some (.ref f_are_widths)
  b_are_widths : Binds K d_are_widths [("width" : Str), ("moved" : Str), ("head" : Str), ("many" : Str)] []
  f_is_head : Addr
  d_is_head : FuncData
  F_is_head : Fun K ("is_head" : Str) ("is_head" : Str) s_is_head f_is_head d_is_head
  m_is_head : mg ("is_head" : Str) = some (.ref f_is_head)
  b_is_head : Binds K d_is_head [("thing" : Str), ("many" : Str)] []
  f_is_note : Addr
  d_is_note : FuncData
  F_is_note : Fun K ("is_note" : Str) ("is_note" : Str) s_is_note f_is_note d_is_note
  m_is_note : mg ("is_note" : Str) = some (.ref f_is_note)
  b_is_note : Binds K d_is_note [("thing" : Str), ("at" : Str), ("head" : Str), ("many" : Str)] []
  f_is_journal : Addr
  d_is_journal : FuncData
  F_is_journal : Fun K ("is_journal" : Str) ("is_journal" : Str) s_is_journal f_is_journal d_is_journal
  m_is_journal : mg ("is_journal" : Str) = some (.ref f_is_journal)
  b_is_journal : Binds K d_is_journal [("thing" : Str), ("head" : Str), ("many" : Str)] []
  f_is_store : Addr
  d_is_store : FuncData
  F_is_store : Fun K ("is_store" : Str) ("is_store" : Str) s_is_store f_is_store d_is_store
  m_is_store : mg ("is_store" : Str) = some (.ref f_is_store)
  b_is_store : Binds K d_is_store [("thing" : Str)] []
  f_read_store : Addr
  d_read_store : FuncData
  F_read_store : Fun K ("read_store" : Str) ("read_store" : Str) s_read_store f_read_store d_read_store
  m_read_store : mg ("read_store" : Str) = some (.ref f_read_store)
  b_read_store : Binds K d_read_store [("text" : Str)] []
  f_law_refused : Addr
  d_law_refused : FuncData
  F_law_refused : Fun K ("_law_refused" : Str) ("_law_refused" : Str) s_law_refused f_law_refused d_law_refused
  m_law_refused : mg ("_law_refused" : Str) = some (.ref f_law_refused)
  b_law_refused : Binds K d_law_refused [("_law_text" : Str)] []
  f_law_block_text : Addr
  d_law_block_text : FuncData
  F_law_block_text : Fun K ("_law_block_text" : Str) ("_law_block_text" : Str) s_law_block_text f_law_block_text d_law_block_text
  m_law_block_text : mg ("_law_block_text" : Str) = some (.ref f_law_block_text)
  b_law_block_text : Binds K d_law_block_text [("_law_block_here" : Str)] []
  f_law_rows : Addr
  d_law_rows : FuncData
  F_law_rows : Fun K ("_law_rows" : Str) ("_law_rows" : Str) s_law_rows f_law_rows d_law_rows
  m_law_rows : mg ("_law_rows" : Str) = some (.ref f_law_rows)
  b_law_rows : Binds K d_law_rows [("_law_store" : Str)] []
  f_law : Addr
  d_law : FuncData
  F_law : Fun K ("law" : Str) ("law" : Str) s_law f_law d_law
  m_law : mg ("law" : Str) = some (.ref f_law)
  b_law : Binds K d_law [("_law_script" : Str)] []
  ck_Draft : Addr
  kl_Draft : KlF K ("Draft" : Str) ck_Draft
  gk_Draft : mg ("Draft" : Str) = some (.ref ck_Draft)
  no_Draft_disks : NoAttr K ck_Draft ("disks" : Str)
  no_Draft_head : NoAttr K ck_Draft ("head" : Str)
  no_Draft_notes : NoAttr K ck_Draft ("notes" : Str)
  mk_Draft : Mk K ck_Draft f_Draft___init__
  me_Draft_put_disk : Meth K ck_Draft ("put_disk" : Str) f_Draft_put_disk
  me_Draft_put_head : Meth K ck_Draft ("put_head" : Str) f_Draft_put_head
  me_Draft_put_note : Meth K ck_Draft ("put_note" : Str) f_Draft_put_note
  me_Draft_put : Meth K ck_Draft ("put" : Str) f_Draft_put
  me_Draft_whole : Meth K ck_Draft ("whole" : Str) f_Draft_whole
  ca_NoText : Addr
  na_NoText : PySem.W.nsIn K mainGlobals ("NoText" : Str) = some (some (.ref ca_NoText))
  ga_NoText : mg ("NoText" : Str) = some (.ref ca_NoText)
  ca_Gone : Addr
  na_Gone : PySem.W.nsIn K mainGlobals ("Gone" : Str) = some (some (.ref ca_Gone))
  ga_Gone : mg ("Gone" : Str) = some (.ref ca_Gone)
  ca_Growing : Addr
  na_Growing : PySem.W.nsIn K mainGlobals ("Growing" : Str) = some (some (.ref ca_Growing))
  ga_Growing : mg ("Growing" : Str) = some (.ref ca_Growing)
  ca_Halfway : Addr
  na_Halfway : PySem.W.nsIn K mainGlobals ("Halfway" : Str) = some (some (.ref ca_Halfway))
  ga_Halfway : mg ("Halfway" : Str) = some (.ref ca_Halfway)
  ca_Lost : Addr
  na_Lost : PySem.W.nsIn K mainGlobals ("Lost" : Str) = some (some (.ref ca_Lost))
  ga_Lost : mg ("Lost" : Str) = some (.ref ca_Lost)
  ca_NoPlace : Addr
  na_NoPlace : PySem.W.nsIn K mainGlobals ("NoPlace" : Str) = some (some (.ref ca_NoPlace))
  ga_NoPlace : mg ("NoPlace" : Str) = some (.ref ca_NoPlace)
  ca_NoSpare : Addr
  na_NoSpare : PySem.W.nsIn K mainGlobals ("NoSpare" : Str) = some (some (.ref ca_NoSpare))
  ga_NoSpare : mg ("NoSpare" : Str) = some (.ref ca_NoSpare)
  ca_NoStore : Addr
  na_NoStore : PySem.W.nsIn K mainGlobals ("NoStore" : Str) = some (some (.ref ca_NoStore))
  ga_NoStore : mg ("NoStore" : Str) = some (.ref ca_NoStore)
  ca_NotGrowing : Addr
  na_NotGrowing : PySem.W.nsIn K mainGlobals ("NotGrowing" : Str) = some (some (.ref ca_NotGrowing))
  ga_NotGrowing : mg ("NotGrowing" : Str) = some (.ref ca_NotGrowing)
  ca_There : Addr
  na_There : PySem.W.nsIn K mainGlobals ("There" : Str) = some (some (.ref ca_There))
  ga_There : mg ("There" : Str) = some (.ref ca_There)
  ca_TooFew : Addr
  na_TooFew : PySem.W.nsIn K mainGlobals ("TooFew" : Str) = some (some (.ref ca_TooFew))
  ga_TooFew : mg ("TooFew" : Str) = some (.ref ca_TooFew)
  ca_Untold : Addr
  na_Untold : PySem.W.nsIn K mainGlobals ("Untold" : Str) = some (some (.ref ca_Untold))
  ga_Untold : mg ("Untold" : Str) = some (.ref ca_Untold)
  ca_DiskError : Addr
  na_DiskError : PySem.W.nsIn K mainGlobals ("DiskError" : Str) = some (some (.ref ca_DiskError))
  ga_DiskError : mg ("DiskError" : Str) = some (.ref ca_DiskError)
  oe_NoText : OexC K ca_NoText
  no_NoText : PySem.W.findIn K (.ref ca_NoText) "row" = some none
  fi_NoText : Addr
  fd_NoText : FuncData
  ic_NoText : PySem.W.findIn K (.ref ca_NoText) "__init__" = some (some (.ref fi_NoText))
  ti_NoText : PySem.W.typeIn K (.ref fi_NoText) = some (.type "function")
  Fi_NoText : Fun K "__init__" "NoText.__init__" si_NoText fi_NoText fd_NoText
  bi_NoText : Binds K fd_NoText ["self", "row"] []
  xk_NoText : XcK K ca_NoText
  rw_NoText : XfC K ca_NoText ∧ PySem.W.findIn K (.ref ca_NoText) "row" = some none
  k_NoText_Gone : PySem.W.kitOne K (.ref ca_NoText) (.ref ca_Gone) = some false
  k_NoText_Growing : PySem.W.kitOne K (.ref ca_NoText) (.ref ca_Growing) = some false
  k_NoText_Halfway : PySem.W.kitOne K (.ref ca_NoText) (.ref ca_Halfway) = some false
  k_NoText_Lost : PySem.W.kitOne K (.ref ca_NoText) (.ref ca_Lost) = some false
  k_NoText_NoPlace : PySem.W.kitOne K (.ref ca_NoText) (.ref ca_NoPlace) = some false
  k_NoText_NoSpare : PySem.W.kitOne K (.ref ca_NoText) (.ref ca_NoSpare) = some false
  k_NoText_NoStore : PySem.W.kitOne K (.ref ca_NoText) (.ref ca_NoStore) = some false
  k_NoText_NoText : PySem.W.kitOne K (.ref ca_NoText) (.ref ca_NoText) = some true
  k_NoText_NotGrowing : PySem.W.kitOne K (.ref ca_NoText) (.ref ca_NotGrowing) = some false
  k_NoText_There : PySem.W.kitOne K (.ref ca_NoText) (.ref ca_There) = some false
  k_NoText_TooFew : PySem.W.kitOne K (.ref ca_NoText) (.ref ca_TooFew) = some false
  k_NoText_Untold : PySem.W.kitOne K (.ref ca_NoText) (.ref ca_Untold) = some false
  k_NoText_ValueError : PySem.W.kitOne K (.ref ca_NoText) (.type "ValueError") = some true
  e_NoText_DiskError : PySem.W.exmOne K (.ref ca_NoText) (.ref ca_DiskError) = some true
  kn_Gone : PySem.W.kitOne K (.type "NoneType") (.ref ca_Gone) = some false
  kn_Growing : PySem.W.kitOne K (.type "NoneType") (.ref ca_Growing) = some false
  kn_Halfway : PySem.W.kitOne K (.type "NoneType") (.ref ca_Halfway) = some false
  kn_Lost : PySem.W.kitOne K (.type "NoneType") (.ref ca_Lost) = some false
  kn_NoPlace : PySem.W.kitOne K (.type "NoneType") (.ref ca_NoPlace) = some false
  kn_NoSpare : PySem.W.kitOne K (.type "NoneType") (.ref ca_NoSpare) = some false
  kn_NoStore : PySem.W.kitOne K (.type "NoneType") (.ref ca_NoStore) = some false
  kn_NoText : PySem.W.kitOne K (.type "NoneType") (.ref ca_NoText) = some false
  kn_NotGrowing : PySem.W.kitOne K (.type "NoneType") (.ref ca_NotGrowing) = some false
  kn_There : PySem.W.kitOne K (.type "NoneType") (.ref ca_There) = some false
  kn_TooFew : PySem.W.kitOne K (.type "NoneType") (.ref ca_TooFew) = some false
  kn_Untold : PySem.W.kitOne K (.type "NoneType") (.ref ca_Untold) = some false
  kn_ValueError : PySem.W.kitOne K (.type "NoneType") (.type "ValueError") = some false
variable {P : Program} {w : World} {K : PySem.W.Frag} {mg : Str → Option Value} {base : Heap}
theorem xr_NoText (T : Tx K mg) : XrT P w K mg base ("NoText" : Str) := xr_mk T.na_NoText T.ga_NoText T.oe_NoText T.no_NoText T.ic_NoText T.ti_NoText T.Fi_NoText sci_NoText T.bi_NoText (by first | exact .inl rfl | exact .inr rfl) (by first | exact .inl rfl | exact .inr rfl) rfl
def sp_law_next : ASp := fun ds M Q => ∃ p q, ∃ m : Int, ds = [.ref p, .int m] ∧ DPot p q M ∧ 0 < m ∧ m < 1000000000000000000000000 ∧
  ∀ (v : Nat) M', DPot p q M' → But p q M M' → (v : Int) < m → Q (dn v) M'
def tk_law_next_5 : RS := (aRet (aOp aMod (aOp aDiv (aOp aIx (aVar 0) (aC (.str ("seed" : Str)))) (aC (.int 65537))) (aVar 1)))
def tk_law_next_4 : RS := aSeq (aAsg (aOp aMod (aOp aMul (aVar 3) (aOp aAdd (aOp aMod (aVar 3) (aC (.int 1009))) (aC (.int 69621)))) (aC (.int 2305843009213693951))) (agSub (aVar 0) (aC (.str ("seed" : Str))) asSet)) (tk_law_next_5)
def tk_law_next_3 : RS := aSeq (aAsg (aOp aMod (aOp aMul (aOp aAdd (aOp aIx (aVar 0) (aC (.str ("seed" : Str)))) (aOp aMul (aOp aIx (aVar 0) (aC (.str ("many" : Str)))) (aC (.int 7919)))) (aC (.int 48271))) (aC (.int 2305843009213693951))) (agName 3)) (tk_law_next_4)
def tk_law_next_2 : RS := aSeq (aAsg (aOp aAdd (aOp aIx (aVar 0) (aC (.str ("many" : Str)))) (aC (.int 1))) (agSub (aVar 0) (aC (.str ("many" : Str))) asSet)) (tk_law_next_3)
def tk_law_next_1 : RS := aSeq (aIfS (aB (aOp aGt (aOp aIx (aVar 0) (aC (.str ("left" : Str)))) (aC (.int 0)))) (aSeq (aAsg (aOp aMod (aOp aIx (aVar 0) (aC (.str ("left" : Str)))) (aVar 1)) (agName 2))
    (aSeq (aAsg (aOp aDiv (aOp aIx (aVar 0) (aC (.str ("left" : Str)))) (aVar 1)) (agSub (aVar 0) (aC (.str ("left" : Str))) asSet))
    (aRet (aVar 2)))) aNext) (tk_law_next_2)
def t_law_next : RS := aSeq (aIfS (aAnd (aB (aOp aEq (aOp aIx (aVar 0) (aC (.str ("left" : Str)))) (aC (.int 0)))) (aB (aOp aNe (aOp aIx (aVar 0) (aC (.str ("own" : Str)))) (aFz (aLst aNil))))) (aAsg (aMth "list" amPop (aOp aIx (aVar 0) (aC (.str ("own" : Str)))) (aCons (aC (.int 0)) aNil)) (agSub (aVar 0) (aC (.str ("left" : Str))) asSet)) aNext) (tk_law_next_1)
theorem len_law_next : ∀ ds M Q, sp_law_next ds M Q → ds.length = 2 := by
  rintro ds M Q ⟨p, q, m, rfl, _⟩
  rfl
theorem spec_law_next : ∀ ds M Q, sp_law_next ds M Q → t_law_next (retD Q) (startA 4 ds) M := by
  rintro ds M Q ⟨p, q, m, rfl, ⟨hne, ⟨l, s, c, hp, l0, s0, c0⟩, own, hq, ho, hol⟩, m0, m1, k0⟩
  have k : ∀ v M', DPot p q M' → But p q M M' → 0 ≤ v → v < m → Q (.int v) M' := fun v M' h1 h2 h3 h4 => by
    obtain ⟨n, rfl⟩ := Int.eq_ofNat_of_zero_le h3
    exact k0 n M' h1 h2 h4
  have tail : ∀ M1, DPot p q M1 → But p q M M1 → (aSeq (aIfS (aB (aOp aGt (aOp aIx (aVar 0) (aC (.str ("left" : Str)))) (aC (.int 0)))) (aSeq (aAsg (aOp aMod (aOp aIx (aVar 0) (aC (.str ("left" : Str)))) (aVar 1)) (agName 2))
    (aSeq (aAsg (aOp aDiv (aOp aIx (aVar 0) (aC (.str ("left" : Str)))) (aVar 1)) (agSub (aVar 0) (aC (.str ("left" : Str))) asSet))
    (aRet (aVar 2)))) aNext)
    (aSeq (aAsg (aOp aAdd (aOp aIx (aVar 0) (aC (.str ("many" : Str)))) (aC (.int 1))) (agSub (aVar 0) (aC (.str ("many" : Str))) asSet))
    (aSeq (aAsg (aOp aMod (aOp aMul (aOp aAdd (aOp aIx (aVar 0) (aC (.str ("seed" : Str)))) (aOp aMul (aOp aIx (aVar 0) (aC (.str ("many" : Str)))) (aC (.int 7919)))) (aC (.int 48271))) (aC (.int 2305843009213693951))) (agName 3))
    (aSeq (aAsg (aOp aMod (aOp aMul (aVar 3) (aOp aAdd (aOp aMod (aVar 3) (aC (.int 1009))) (aC (.int 69621)))) (aC (.int 2305843009213693951))) (agSub (aVar 0) (aC (.str ("seed" : Str))) asSet))
    (aRet (aOp aMod (aOp aDiv (aOp aIx (aVar 0) (aC (.str ("seed" : Str)))) (aC (.int 65537))) (aVar 1))))))) (retD Q) (startA 4 [Dv.ref p, Dv.int m]) M1 := by
    rintro M1 ⟨_, ⟨l, s, c, hp, l0, s0, c0⟩, own, hq, ho, hol⟩ hb
    ((repeat ((conv => whnf); simp only [lenA_r, itemsA_r, lstA_r, lstC_s, Option.map_some, atI_0, ixN_0, mup_same, mup_mup, true_and, and_true, List.map_cons, List.map_nil, List.length_cons, List.length_map, List.length_nil, List.set_cons_zero, List.set_cons_succ, List.cons_append, List.nil_append, List.getElem?_cons_zero, List.getElem?_cons_succ, hp, potC])); (conv => whnf))
    refine onIf_dec (fun hz => ?_) (fun hz => ?_)
    · ((repeat ((conv => whnf); simp only [lenA_r, itemsA_r, lstA_r, lstC_s, Option.map_some, atI_0, ixN_0, mup_same, mup_mup, true_and, and_true, List.map_cons, List.map_nil, List.length_cons, List.length_map, List.length_nil, List.set_cons_zero, List.set_cons_succ, List.cons_append, List.nil_append, List.getElem?_cons_zero, List.getElem?_cons_succ, hp, potC])); (conv => whnf))
      refine ⟨m0, ?_⟩
      ((repeat ((conv => whnf); simp only [lenA_r, itemsA_r, lstA_r, lstC_s, Option.map_some, atI_0, ixN_0, mup_same, mup_mup, true_and, and_true, List.map_cons, List.map_nil, List.length_cons, List.length_map, List.length_nil, List.set_cons_zero, List.set_cons_succ, List.cons_append, List.nil_append, List.getElem?_cons_zero, List.getElem?_cons_succ, hp, potC])); (conv => whnf))
      refine ⟨⟨m0, m1⟩, ?_⟩
      ((repeat ((conv => whnf); simp only [lenA_r, itemsA_r, lstA_r, lstC_s, Option.map_some, atI_0, ixN_0, mup_same, mup_mup, true_and, and_true, List.map_cons, List.map_nil, List.length_cons, List.length_map, List.length_nil, List.set_cons_zero, List.set_cons_succ, List.cons_append, List.nil_append, List.getElem?_cons_zero, List.getElem?_cons_succ, hp, potC])); (conv => whnf))
      refine ⟨(by first | decide | omega | (dsimp only; decide) | (dsimp only; omega)), ?_⟩
      rw [put_left]
      refine retSub (Sub.refl _) (k _ _ (DPot.set ⟨hne, ⟨l, s, c, hp, l0, s0, c0⟩, own, hq, ho, hol⟩ (Int.ediv_nonneg l0 (by omega)) s0 c0) hb.p (Int.emod_nonneg _ (by omega)) (Int.emod_lt_of_pos _ m0))
    · ((repeat ((conv => whnf); simp only [lenA_r, itemsA_r, lstA_r, lstC_s, Option.map_some, atI_0, ixN_0, mup_same, mup_mup, true_and, and_true, List.map_cons, List.map_nil, List.length_cons, List.length_map, List.length_nil, List.set_cons_zero, List.set_cons_succ, List.cons_append, List.nil_append, List.getElem?_cons_zero, List.getElem?_cons_succ, hp, potC])); (conv => whnf))
      refine ⟨(by first | decide | omega | (dsimp only; decide) | (dsimp only; omega)), ?_⟩
      rw [put_many]
      ((repeat ((conv => whnf); simp only [lenA_r, itemsA_r, lstA_r, lstC_s, Option.map_some, atI_0, ixN_0, mup_same, mup_mup, true_and, and_true, List.map_cons, List.map_nil, List.length_cons, List.length_map, List.length_nil, List.set_cons_zero, List.set_cons_succ, List.cons_append, List.nil_append, List.getElem?_cons_zero, List.getElem?_cons_succ])); (conv => whnf))
      refine ⟨.inl (.inr ⟨by decide, by decide⟩), ?_⟩
      (conv => whnf)
      refine ⟨.inl (.inr ⟨by decide, by decide⟩), ?_⟩
      (conv => whnf)
      refine ⟨(by first | decide | omega | (dsimp only; decide) | (dsimp only; omega)), ?_⟩
      (conv => whnf)
      refine ⟨(by first | decide | omega | (dsimp only; decide) | (dsimp only; omega)), ?_⟩
      (conv => whnf)
      refine ⟨.inl (.inr ⟨by omega, by omega⟩), ?_⟩
      (conv => whnf)
      refine ⟨(by first | decide | omega | (dsimp only; decide) | (dsimp only; omega)), ?_⟩
      ((repeat ((conv => whnf); simp only [lenA_r, itemsA_r, lstA_r, lstC_s, Option.map_some, atI_0, ixN_0, mup_same, mup_mup, true_and, and_true, List.map_cons, List.map_nil, List.length_cons, List.length_map, List.length_nil, List.set_cons_zero, List.set_cons_succ, List.cons_append, List.nil_append, List.getElem?_cons_zero, List.getElem?_cons_succ])); (conv => whnf))
      refine ⟨(by first | decide | omega | (dsimp only; decide) | (dsimp only; omega)), ?_⟩
      rw [put_seed]
      have y0 : 0 ≤ (s + (c + 1) * 7919) * 48271 % 2305843009213693951 * ((s + (c + 1) * 7919) * 48271 % 2305843009213693951 % 1009 + 69621) % 2305843009213693951 := Int.emod_nonneg _ (by decide)
      generalize (s + (c + 1) * 7919) * 48271 % 2305843009213693951 * ((s + (c + 1) * 7919) * 48271 % 2305843009213693951 % 1009 + 69621) % 2305843009213693951 = y at y0 ⊢
      ((repeat ((conv => whnf); simp only [lenA_r, itemsA_r, lstA_r, lstC_s, Option.map_some, atI_0, ixN_0, mup_same, mup_mup, true_and, and_true, List.map_cons, List.map_nil, List.length_cons, List.length_map, List.length_nil, List.set_cons_zero, List.set_cons_succ, List.cons_append, List.nil_append, List.getElem?_cons_zero, List.getElem?_cons_succ])); (conv => whnf))
      refine ⟨⟨by decide, by decide⟩, ?_⟩
      (conv => whnf)
      refine ⟨m0, ?_⟩
      refine retSub (Sub.refl _) (k _ _ (DPot.set ⟨hne, ⟨l, s, c, hp, l0, s0, c0⟩, own, hq, ho, hol⟩ l0 y0 (by omega)) hb.p (Int.emod_nonneg _ (by omega)) (Int.emod_lt_of_pos _ m0))
  have h0 : DPot p q M := ⟨hne, ⟨l, s, c, hp, l0, s0, c0⟩, own, hq, ho, hol⟩
  ((repeat ((conv => whnf); simp only [lenA_r, itemsA_r, lstA_r, lstC_s, Option.map_some, atI_0, ixN_0, mup_same, mup_mup, true_and, and_true, List.map_cons, List.map_nil, List.length_cons, List.length_map, List.length_nil, List.set_cons_zero, List.set_cons_succ, List.cons_append, List.nil_append, List.getElem?_cons_zero, List.getElem?_cons_succ, hp, potC])); (conv => whnf))
  refine ⟨trivial, trivial, ?_⟩
  refine onIf_dec (fun hz => ?_) (fun hz => ?_)
  · ((repeat ((conv => whnf); simp only [lenA_r, itemsA_r, lstA_r, lstC_s, Option.map_some, atI_0, ixN_0, mup_same, mup_mup, true_and, and_true, List.map_cons, List.map_nil, List.length_cons, List.length_map, List.length_nil, List.set_cons_zero, List.set_cons_succ, List.cons_append, List.nil_append, List.getElem?_cons_zero, List.getElem?_cons_succ, hp, potC])); (conv => whnf))
    refine ⟨Nat.zero_le _, fun r hr => fz_new hr ?_⟩
    (conv => whnf)
    have pl1 : ∀ d ∈ own.map Dv.int, Pl 8 d := fun d hd => by
      obtain ⟨x, _, rfl⟩ := List.mem_map.mp hd
      trivial
    have pl2 : ∀ d ∈ ([] : List Dv), Pl 8 d := fun d hd => absurd hd (List.not_mem_nil)
    refine ⟨own.map Dv.int, hq, pl1, pl2, ?_⟩
    refine onIf_ndec (fun h => ?_) (fun h => ?_)
    · cases own with
      | nil => exact absurd rfl h
      | cons x own =>
      ((repeat ((conv => whnf); simp only [lenA_r, itemsA_r, lstA_r, lstC_s, Option.map_some, atI_0, ixN_0, mup_same, mup_mup, true_and, and_true, List.map_cons, List.map_nil, List.length_cons, List.length_map, List.length_nil, List.set_cons_zero, List.set_cons_succ, List.cons_append, List.nil_append, List.getElem?_cons_zero, List.getElem?_cons_succ, hp, potC, hq])); (conv => whnf))
      refine ⟨tyM_list hq, ?_⟩
      ((repeat ((conv => whnf); simp only [lenA_r, itemsA_r, lstA_r, lstC_s, Option.map_some, atI_0, ixN_0, mup_same, mup_mup, true_and, and_true, List.map_cons, List.map_nil, List.length_cons, List.length_map, List.length_nil, List.set_cons_zero, List.set_cons_succ, List.cons_append, List.nil_append, List.getElem?_cons_zero, List.getElem?_cons_succ, hq])); (conv => whnf))
      refine ⟨⟨by decide, by decide⟩, ?_⟩
      have x0 : 0 ≤ x := ho x (by simp)
      have e3 : mup M q (.lst (own.map Dv.int)) p = some (potC q l s c) := by rw [mup_ne hne]; exact hp
      have h2 : DPot p q (mup M q (.lst (own.map Dv.int))) := ⟨hne, ⟨l, s, c, e3, l0, s0, c0⟩, own, mup_same, fun y hy => ho y (by simp [hy]), by simp at hol; omega⟩
      have b2 : But p q M (mup M q (.lst (own.map Dv.int))) := (But.refl p q M).q
      simp only [show Int.toNat 0 = 0 from rfl, List.getElem?_cons_zero, List.eraseIdx_cons_zero]
      generalize mup M q (.lst (own.map Dv.int)) = M2 at e3 h2 b2 ⊢
      (conv => whnf)
      simp only [e3, potC]
      (conv => whnf)
      refine ⟨show 4 < sizeLine by decide, ?_⟩
      rw [put_left]
      exact tail _ (h2.set (l := x) x0 s0 c0) b2.p
    · exact tail _ h0 (But.refl p q M)
  · exact tail _ h0 (But.refl p q M)
theorem ok_law_next (T : Tx K mg) : FnA P w K mg base 1 T.f_law_next T.d_law_next [("_law_pot_here" : Str), ("_law_many" : Str)] sp_law_next :=
  fnA T.F_law_next sc_law_next len_law_next (fun cdv A outer s H E hr => by
    have hu1 := hu_of hr
    have hu64 := hr.units
    exact (ass_cons (as_if (AW.pt (aw_and (at_eq hu64 (ae_ix hu1 (av 0) ae_str) ae_int) (aw_and1 (at_ne hu64 (ae_ix hu1 (av 0) ae_str) (ae_fz (ae_lst aa_nil)))))) (ass_one (as_asg (ae_popAt (ae_ix hu1 (av 0) ae_str) (aa_cons ae_int aa_nil)) (ag_sub hu1 (av 0) ae_str))) ass_nil)
    (ass_cons (as_if (at_gt (ae_ix hu1 (av 0) ae_str) ae_int) (ass_cons (as_set 2 sc_law_next.nd (ae_mod (ae_ix hu1 (av 0) ae_str) (av 1)))
    (ass_cons (as_asg (ae_div (ae_ix hu1 (av 0) ae_str) (av 1)) (ag_sub hu1 (av 0) ae_str))
    (ass_one (as_ret (av 2))))) ass_nil)
    (ass_cons (as_asg (ae_add (ae_ix hu1 (av 0) ae_str) ae_int) (ag_sub hu1 (av 0) ae_str))
    (ass_cons (as_set 3 sc_law_next.nd (ae_mod (ae_mul (ae_add (ae_ix hu1 (av 0) ae_str) (ae_mul (ae_ix hu1 (av 0) ae_str) ae_int)) ae_int) ae_int))
    (ass_cons (as_asg (ae_mod (ae_mul (av 3) (ae_add (ae_mod (av 3) ae_int) ae_int)) ae_int) (ag_sub hu1 (av 0) ae_str))
    (ass_one (as_ret (ae_mod (ae_div (ae_ix hu1 (av 0) ae_str) ae_int) (av 1)))))))))) spec_law_next
def sp_law_one_of : ASp := fun ds M Q => ∃ p q, ∃ l, ∃ xs : List Dv, ds = [.ref p, l] ∧ (l = .rol xs ∨ ∃ a, l = .ref a ∧ a ≠ p ∧ a ≠ q ∧ M a = some (.lst xs)) ∧ DPot p q M ∧ xs ≠ [] ∧ xs.length ≤ 1000000 ∧
  ∀ d M', d ∈ xs → DPot p q M' → But p q M M' → Q d M'
def t_law_one_of : RS := (aRet (aOp aIx (aVar 1) (aCall sp_law_next (aCons (aVar 0) (aCons (aFn acLen (aCons (aVar 1) aNil)) aNil)))))
theorem len_law_one_of : ∀ ds M Q, sp_law_one_of ds M Q → ds.length = 2 := by
  rintro ds M Q ⟨p, q, l, xs, rfl, _⟩
  rfl
theorem spec_law_one_of : ∀ ds M Q, sp_law_one_of ds M Q → t_law_one_of (retD Q) (startA 2 ds) M := by
  rintro ds M Q ⟨p, q, l, xs, rfl, hx, hd, h0, hl, k⟩
  have l0 : 0 < xs.length := List.length_pos_iff.mpr h0
  rcases hx with rfl | ⟨a, rfl, ap, aq, ha⟩
  · decreasing_tactic
    (refine ⟨_, _, _, rfl, by assumption, (by infer_instance), (by infer_instance), fun v Mv dv bv lv => ?_⟩; decreasing_tactic)
    obtain ⟨d, hd, e⟩ := atI_some (xs := xs) (v := v) (by omega) (by omega)
    ((repeat ((conv => whnf); simp only [lenA_r, itemsA_r, lstA_r, lstC_s, Option.map_some, atI_0, ixN_0, mup_same, mup_mup, true_and, and_true, List.map_cons, List.map_nil, List.length_cons, List.length_map, List.length_nil, List.set_cons_zero, List.set_cons_succ, List.cons_append, List.nil_append, List.getElem?_cons_zero, List.getElem?_cons_succ, e])); (conv => whnf))
    exact retEnd (k d _ hd dv bv)
  · ((repeat ((conv => whnf); simp only [lenA_r, itemsA_r, lstA_r, lstC_s, Option.map_some, atI_0, ixN_0, mup_same, mup_mup, true_and, and_true, List.map_cons, List.map_nil, List.length_cons, List.length_map, List.length_nil, List.set_cons_zero, List.set_cons_succ, List.cons_append, List.nil_append, List.getElem?_cons_zero, List.getElem?_cons_succ, ha])); (conv => whnf))
    (refine ⟨_, _, _, rfl, by assumption, (by infer_instance), (by infer_instance), fun v Mv dv bv lv => ?_⟩; decreasing_tactic)
    have ha2 := bv.at ap aq ha
    obtain ⟨d, hd, e⟩ := atI_some (xs := xs) (v := v) (by omega) (by omega)
    ((repeat ((conv => whnf); simp only [lenA_r, itemsA_r, lstA_r, lstC_s, Option.map_some, atI_0, ixN_0, mup_same, mup_mup, true_and, and_true, List.map_cons, List.map_nil, List.length_cons, List.length_map, List.length_nil, List.set_cons_zero, List.set_cons_succ, List.cons_append, List.nil_append, List.getElem?_cons_zero, List.getElem?_cons_succ, ha2, e])); (conv => whnf))
    exact retEnd (k d _ hd dv bv)
theorem ok_law_one_of (T : Tx K mg) : FnA P w K mg base 2 T.f_law_one_of T.d_law_one_of [("_law_pot_here" : Str), ("_law_some" : Str)] sp_law_one_of :=
  fnA T.F_law_one_of sc_law_one_of len_law_one_of (fun cdv A outer s H E hr => by
    have hu1 := hu_of hr
    have hu64 := hr.units
    exact (ass_one (as_ret (ae_ix hu1 (av 1) (ae_call (ok_law_next T) (hr.mono (by decide)) T.m_law_next T.F_law_next.kp T.b_law_next (aa_cons (av 0) (aa_cons (ae_callB call_len abc_len (aa_cons (av 1) aa_nil) T.n_len boot_len) aa_nil))))))) spec_law_one_of
def sp_law_bad_block : ASp := fun ds M Q => ∃ p q, ds = [.ref p] ∧ DPot p q M ∧ ∀ (w : Str) M', DPot p q M' → But p q M M' → w ∈ badB → Q (.str w) M'
def tk_law_bad_block_1 : RS := (aRet (aCall sp_law_one_of (aCons (aVar 0) (aCons (aVar 1) aNil))))
def t_law_bad_block : RS := aSeq (aAsg (aFz (aLst (aCons (aC (.str ("" : Str))) (aCons (aC (.str ("0" : Str))) (aCons (aC (.str ("abc" : Str))) (aCons (aC (.str ("0g" : Str))) (aCons (aC (.str ("AB" : Str))) (aCons (aC (.str ("aB" : Str))) (aCons (aC (.str ("--" : Str))) (aCons (aC (.str ("0-" : Str))) (aCons (aC (.str ("0x10" : Str))) (aCons (aC (.str ("1 34" : Str))) (aCons (aC (.str ("zz" : Str))) (aCons (aC (.str ("00," : Str))) (aCons (aC (.str ("None" : Str))) aNil))))))))))))))) (agName 1)) (tk_law_bad_block_1)
theorem len_law_bad_block : ∀ ds M Q, sp_law_bad_block ds M Q → ds.length = 1 := by
  rintro ds M Q ⟨p, q, rfl, _⟩
  rfl
theorem spec_law_bad_block : ∀ ds M Q, sp_law_bad_block ds M Q → t_law_bad_block (retD Q) (startA 2 ds) M := by
  rintro ds M Q ⟨p, q, rfl, hd, k⟩
  have big : 20 ≤ sizeLine := by decide
  decreasing_tactic
  refine ⟨p, q, _, badB.map Dv.str, rfl, .inl rfl, hd, List.cons_ne_nil _ _, by decide, fun d M1 hs d1 b1 => ?_⟩
  obtain ⟨w, hw, rfl⟩ := List.mem_map.mp hs
  exact retEnd (k w M1 d1 b1 hw)
theorem ok_law_bad_block (T : Tx K mg) : FnA P w K mg base 3 T.f_law_bad_block T.d_law_bad_block [("_law_pot_here" : Str)] sp_law_bad_block :=
  fnA T.F_law_bad_block sc_law_bad_block len_law_bad_block (fun cdv A outer s H E hr => by
    have hu1 := hu_of hr
    have hu64 := hr.units
    exact (ass_cons (as_set 1 sc_law_bad_block.nd (ae_fz (ae_lst (aa_cons ae_str (aa_cons ae_str (aa_cons ae_str (aa_cons ae_str (aa_cons ae_str (aa_cons ae_str (aa_cons ae_str (aa_cons ae_str (aa_cons ae_str (aa_cons ae_str (aa_cons ae_str (aa_cons ae_str (aa_cons ae_str aa_nil))))))))))))))))
    (ass_one (as_ret (ae_call (ok_law_one_of T) (hr.mono (by decide)) T.m_law_one_of T.F_law_one_of.kp T.b_law_one_of (aa_cons (av 0) (aa_cons (av 1) aa_nil))))))) spec_law_bad_block
def sp_law_bad_number : ASp := fun ds M Q => ∃ p q, ds = [.ref p] ∧ DPot p q M ∧ ∀ (w : Str) M', DPot p q M' → But p q M M' → w ∈ badN → Q (.str w) M'
def t_law_bad_number : RS := (aRet (aCall sp_law_one_of (aCons (aVar 0) (aCons (aFz (aLst (aCons (aC (.str ("" : Str))) (aCons (aC (.str ("01" : Str))) (aCons (aC (.str ("00" : Str))) (aCons (aC (.str ("-1" : Str))) (aCons (aC (.str ("+1" : Str))) (aCons (aC (.str ("x" : Str))) (aCons (aC (.str ("1234567890123" : Str))) (aCons (aC (.str ("1.0" : Str))) (aCons (aC (.str ("a" : Str))) (aCons (aC (.str ("0x1" : Str))) (aCons (aC (.str ("1," : Str))) (aCons (aC (.str ("-" : Str))) aNil)))))))))))))) aNil))))
theorem len_law_bad_number : ∀ ds M Q, sp_law_bad_number ds M Q → ds.length = 1 := by
  rintro ds M Q ⟨p, q, rfl, _⟩
  rfl
theorem spec_law_bad_number : ∀ ds M Q, sp_law_bad_number ds M Q → t_law_bad_number (retD Q) (startA 1 ds) M := by
  rintro ds M Q ⟨p, q, rfl, hd, k⟩
  have big : 20 ≤ sizeLine := by decide
  decreasing_tactic
  refine ⟨p, q, _, badN.map Dv.str, rfl, .inl rfl, hd, List.cons_ne_nil _ _, by decide, fun d M1 hs d1 b1 => ?_⟩
  obtain ⟨w, hw, rfl⟩ := List.mem_map.mp hs
  exact retEnd (k w M1 d1 b1 hw)
theorem ok_law_bad_number (T : Tx K mg) : FnA P w K mg base 3 T.f_law_bad_number T.d_law_bad_number [("_law_pot_here" : Str)] sp_law_bad_number :=
  fnA T.F_law_bad_number sc_law_bad_number len_law_bad_number (fun cdv A outer s H E hr => by
    have hu1 := hu_of hr
    have hu64 := hr.units
    exact (ass_one (as_ret (ae_call (ok_law_one_of T) (hr.mono (by decide)) T.m_law_one_of T.F_law_one_of.kp T.b_law_one_of (aa_cons (av 0) (aa_cons (ae_fz (ae_lst (aa_cons ae_str (aa_cons ae_str (aa_cons ae_str (aa_cons ae_str (aa_cons ae_str (aa_cons ae_str (aa_cons ae_str (aa_cons ae_str (aa_cons ae_str (aa_cons ae_str (aa_cons ae_str (aa_cons ae_str aa_nil)))))))))))))) aa_nil)))))) spec_law_bad_number
def sp_law_bad_row : ASp := fun ds M Q => ∃ p q, ∃ (hd : Bool) (W : List Str), ds = [.ref p, .str (Txt.join (" " : Str) W)] ∧ DPot p q M ∧ RowK hd W ∧ ∀ (r : Str) M', DPot p q M' → But p q M M' → BadR hd r → Q (.str r) M'
def tk_law_bad_row_7 : RS := (aRet (aCall sp_law_one_of (aCons (aVar 0) (aCons (aFz (aLst (aCons (aMth "str" amJoin (aC (.str (" " : Str))) (aCons (aVar 2) aNil)) (aCons (aMth "str" amJoin (aC (.str (" " : Str))) (aCons (aVar 2) aNil)) (aCons (aOp aAdd (aVar 1) (aC (.str (" 1" : Str)))) (aCons (aVar 5) aNil)))))) aNil))))
def tk_law_bad_row_6 : RS := aSeq (aAsg (aMth "str" amJoin (aC (.str (" " : Str))) (aCons (aFz (aSl (aFz (aMth "str" amSplit (aVar 1) (aCons (aC (.str (" " : Str))) aNil))) aoN (aoS (aUn aNeg (aC (.int 1)))))) aNil)) (agName 5)) (tk_law_bad_row_7)
def tk_law_bad_row_5 : RS := aSeq (aAsg (aCall sp_law_bad_number (aCons (aVar 0) aNil)) (agSub (aVar 2) (aVar 4) asSet)) (tk_law_bad_row_6)
def tk_law_bad_row_4 : RS := aSeq (aAsg (aOp aAdd (aC (.int 1)) (aCall sp_law_next (aCons (aVar 0) (aCons (aOp aIx (aFz (aLst (aCons (aOp aSub (aFn acLen (aCons (aVar 2) aNil)) (aC (.int 1))) (aCons (aC (.int 2)) aNil)))) (aFn acInt (aCons (aOp aEq (aOp aIx (aVar 2) (aC (.int 0))) (aC (.str ("note" : Str)))) aNil))) aNil)))) (agName 4)) (tk_law_bad_row_5)
def tk_law_bad_row_3 : RS := aSeq (aIfS (aAnd (aB (aOp aEq (aOp aIx (aVar 2) (aC (.int 0))) (aC (.str ("note" : Str))))) (aB (aOp aEq (aCall sp_law_next (aCons (aVar 0) (aCons (aC (.int 3)) aNil))) (aC (.int 0))))) (aSeq (aAsg (aCall sp_law_bad_block (aCons (aVar 0) aNil)) (agSub (aVar 2) (aC (.int 3)) asSet))
    (aRet (aCall sp_law_one_of (aCons (aVar 0) (aCons (aFz (aLst (aCons (aMth "str" amJoin (aC (.str (" " : Str))) (aCons (aVar 2) aNil)) (aCons (aMth "str" amJoin (aC (.str (" " : Str))) (aCons (aFz (aSl (aVar 2) aoN (aoS (aC (.int 3))))) aNil)) (aCons (aOp aAdd (aVar 1) (aC (.str (" 00" : Str)))) aNil))))) aNil))))) aNext) (tk_law_bad_row_4)
def tk_law_bad_row_2 : RS := aSeq (aIfS (aB (aOp aEq (aOp aIx (aVar 2) (aC (.int 0))) (aC (.str ("disk" : Str))))) (aSeq (aAsg (aOp aAdd (aC (.int 1)) (aCall sp_law_next (aCons (aVar 0) (aCons (aOp aSub (aFn acLen (aCons (aVar 2) aNil)) (aC (.int 1))) aNil)))) (agName 4))
    (aSeq (aAsg (aCall sp_law_bad_block (aCons (aVar 0) aNil)) (agSub (aVar 2) (aVar 4) asSet))
    (aRet (aCall sp_law_one_of (aCons (aVar 0) (aCons (aFz (aLst (aCons (aMth "str" amJoin (aC (.str (" " : Str))) (aCons (aVar 2) aNil)) (aCons (aOp aAdd (aC (.str ("disks " : Str))) (aOp aIx (aVar 2) (aVar 4))) (aCons (aC (.str ("disk " : Str))) (aCons (aMth "str" amJoin (aC (.str (" " : Str))) (aCons (aVar 2) aNil)) aNil)))))) aNil)))))) aNext) (tk_law_bad_row_3)
def tk_law_bad_row_1 : RS := aSeq (aIfS (aOr (aB (aOp aEq (aCall sp_law_next (aCons (aVar 0) (aCons (aC (.int 3)) aNil))) (aC (.int 0)))) (aB (aOp aEq (aVar 2) (aFz (aLst (aCons (aC (.str ("lost" : Str))) aNil)))))) (aSeq (aAsg (aLst (aCons (aC (.str ("" : Str))) (aCons (aOp aAdd (aC (.str (" " : Str))) (aVar 1)) (aCons (aOp aAdd (aVar 1) (aC (.str (" " : Str)))) (aCons (aUpp (aVar 1)) (aCons (aOp aAdd (aC (.str ("x" : Str))) (aVar 1)) (aCons (aOp aAdd (aVar 1) (aC (.str ("	" : Str)))) (aCons (aC (.str (" " : Str))) aNil)))))))) (agName 3))
    (aSeq (aAsg (aOp aAdd (aVar 3) (aLst (aCons (aOp aAdd (aMth "str" amJoin (aC (.str (" " : Str))) (aCons (aFz (aOp aAdd (aOp aAdd (aSl (aVar 2) aoN (aoS (aC (.int 1)))) (aLst (aCons (aC (.str ("" : Str))) aNil))) (aSl (aVar 2) (aoS (aC (.int 1))) aoN))) aNil)) (aC (.str (" " : Str)))) aNil))) (agName 3))
    (aRet (aCall sp_law_one_of (aCons (aVar 0) (aCons (aFz (aOp aAdd (aVar 3) (aLst (aCons (aOp aAdd (aOp aIx (aVar 2) (aC (.int 0))) (aC (.str ("s" : Str)))) aNil)))) aNil)))))) aNext) (tk_law_bad_row_2)
def t_law_bad_row : RS := aSeq (aAsg (aMth "str" amSplit (aVar 1) (aCons (aC (.str (" " : Str))) aNil)) (agName 2)) (tk_law_bad_row_1)
theorem len_law_bad_row : ∀ ds M Q, sp_law_bad_row ds M Q → ds.length = 2 := by
  rintro ds M Q ⟨p, q, hd, W, rfl, _⟩
  rfl
theorem badrow_a {p q a : Addr} {hd : Bool} {W : List Str} {R : Str} {Q : DK} (kw : RowK hd W) (hR : R = Txt.join (" " : Str) W) (c : Ends') (hc : c.rt = (retD Q).rt) (Mx : Ms) (lX : Mx a = some (.lst (W.map Dv.str))) (dX : DPot p q Mx) (k : ∀ (r : Str) M', DPot p q M' → But p q Mx M' → BadR hd r → Q (.str r) M') : (aSeq (aAsg (aLst (aCons (aC (.str ("" : Str))) (aCons (aOp aAdd (aC (.str (" " : Str))) (aVar 1)) (aCons (aOp aAdd (aVar 1) (aC (.str (" " : Str)))) (aCons (aUpp (aVar 1)) (aCons (aOp aAdd (aC (.str ("x" : Str))) (aVar 1)) (aCons (aOp aAdd (aVar 1) (aC (.str ("	" : Str)))) (aCons (aC (.str (" " : Str))) aNil)))))))) (agName 3))
    (aSeq (aAsg (aOp aAdd (aVar 3) (aLst (aCons (aOp aAdd (aMth "str" amJoin (aC (.str (" " : Str))) (aCons (aFz (aOp aAdd (aOp aAdd (aSl (aVar 2) aoN (aoS (aC (.int 1)))) (aLst (aCons (aC (.str ("" : Str))) aNil))) (aSl (aVar 2) (aoS (aC (.int 1))) aoN))) aNil)) (aC (.str (" " : Str)))) aNil))) (agName 3))
    (aRet (aCall sp_law_one_of (aCons (aVar 0) (aCons (aFz (aOp aAdd (aVar 3) (aLst (aCons (aOp aAdd (aOp aIx (aVar 2) (aC (.int 0))) (aC (.str ("s" : Str)))) aNil)))) aNil)))))) c [some (.ref p), some (.str R), some (.ref a), none, none, none] Mx := by
  have sz := kw.size
  have wk := kw.words
  have own := kw.own
  obtain ⟨w, rest, eW, kk⟩ := kw.first
  rw [← hR] at sz own
  have big : (16777216 : Nat) = sizeLine := by decide
  have l1 : (" " : Str).length = 1 := by decide
  have lx := len_one.1
  have lt := len_one.2.1
  have ls := len_one.2.2
  have lW : (W.map Dv.str).length ≤ 25 := by rw [List.length_map]; exact wk.ln
  have mX : MemA p q a (W.map Dv.str) Mx := ⟨dX, lX⟩
  have ct1 : cutA (W.map Dv.str) none (some 1) = (W.take 1).map Dv.str := (cutA_to _ 1).trans List.map_take.symm
  have cf1 : cutA (W.map Dv.str) (some 1) none = (W.drop 1).map Dv.str := (cutA_from _ 1).trans List.map_drop.symm
  have t1l : (W.take 1).length ≤ 1 := List.length_take_le _ _
  have d1l : (W.drop 1).length ≤ 25 := by rw [List.length_drop]; have := wk.ln; omega
  decreasing_tactic
  obtain ⟨L7, e7⟩ : ∃ L : List Dv, L = [Dv.str ("" : Str), Dv.str ((" " : Str) ++ R), Dv.str (R ++ (" " : Str)), Dv.str (Txt.upper R), Dv.str (("x" : Str) ++ R), Dv.str (R ++ ("\t" : Str)), Dv.str (" " : Str)] := ⟨_, rfl⟩
  have g7 : ∀ d ∈ L7, ∃ r, BadR hd r ∧ d = .str r := fun d hdd => by
    rw [e7, hR] at hdd
    simp only [List.mem_cons, List.not_mem_nil, or_false] at hdd
    rcases hdd with rfl | rfl | rfl | rfl | rfl | rfl | rfl
    · exact ⟨_, bad_blank.1, rfl⟩
    · exact ⟨_, kw.a2, rfl⟩
    · exact ⟨_, by rw [row_end (by rw [eW]; exact List.cons_ne_nil _ _)]; exact kw.a3 no_empty wdQ_const.1 fun _ => empty_bad.2, rfl⟩
    · exact ⟨_, kw.a4, rfl⟩
    · exact ⟨_, kw.a5, rfl⟩
    · exact ⟨_, kw.a6, rfl⟩
    · exact ⟨_, bad_blank.2, rfl⟩
  have n7 : L7.length = 7 := by rw [e7]; rfl
  rw [← e7]
  clear e7
  intro b1 h1
  have m1 := mX.new (c := .lst L7) h1
  have l1 : mup Mx b1 (.lst L7) b1 = some (.lst L7) := mup_same
  have B1 : But p q Mx (mup Mx b1 (.lst L7)) := (But.refl p q Mx).new h1
  generalize mup Mx b1 (.lst L7) = M1 at m1 l1 B1 ⊢
  decreasing_tactic
  refine ⟨rfl, ?_⟩
  ((repeat ((conv => whnf); simp only [lenA_r, itemsA_r, lstA_r, lstC_s, Option.map_some, atI_0, ixN_0, mup_same, mup_mup, true_and, and_true, List.map_cons, List.map_nil, List.length_cons, List.length_map, List.length_nil, List.set_cons_zero, List.set_cons_succ, List.cons_append, List.nil_append, List.getElem?_cons_zero, List.getElem?_cons_succ, m1.l])); (conv => whnf))
  rw [ct1]
  intro b2 h2
  have m2 := m1.new (c := .lst ((W.take 1).map Dv.str)) h2
  have l_b2 : mup M1 b2 (.lst ((W.take 1).map Dv.str)) b2 = some (.lst ((W.take 1).map Dv.str)) := mup_same
  have B2 : But p q Mx (mup M1 b2 (.lst ((W.take 1).map Dv.str))) := B1.new h2
  have p2 := look_new (x := .lst ((W.take 1).map Dv.str)) l1 h2
  generalize mup M1 b2 (.lst ((W.take 1).map Dv.str)) = M2 at m2 l_b2 B2 p2 ⊢
  decreasing_tactic
  rw [show [Dv.str ("" : Str)] = [("" : Str)].map Dv.str from rfl]
  intro b3 h3
  have m3 := m2.new (c := .lst ([("" : Str)].map Dv.str)) h3
  have l_b3 : mup M2 b3 (.lst ([("" : Str)].map Dv.str)) b3 = some (.lst ([("" : Str)].map Dv.str)) := mup_same
  have B3 : But p q Mx (mup M2 b3 (.lst ([("" : Str)].map Dv.str))) := B2.new h3
  have p3 := look_new (x := .lst ([("" : Str)].map Dv.str)) p2 h3
  have q3 := look_new (x := .lst ([("" : Str)].map Dv.str)) l_b2 h3
  generalize mup M2 b3 (.lst ([("" : Str)].map Dv.str)) = M3 at m3 l_b3 B3 p3 q3 ⊢
  refine ⟨_, _, q3, l_b3, le_line (by rw [List.length_map, List.length_map]; show _ + 1 ≤ 1000000; omega), ?_⟩
  rw [← List.map_append]
  intro b4 h4
  have m4 := m3.new (c := .lst ((W.take 1 ++ [("" : Str)]).map Dv.str)) h4
  have l_b4 : mup M3 b4 (.lst ((W.take 1 ++ [("" : Str)]).map Dv.str)) b4 = some (.lst ((W.take 1 ++ [("" : Str)]).map Dv.str)) := mup_same
  have B4 : But p q Mx (mup M3 b4 (.lst ((W.take 1 ++ [("" : Str)]).map Dv.str))) := B3.new h4
  have p4 := look_new (x := .lst ((W.take 1 ++ [("" : Str)]).map Dv.str)) p3 h4
  generalize mup M3 b4 (.lst ((W.take 1 ++ [("" : Str)]).map Dv.str)) = M4 at m4 l_b4 B4 p4 ⊢
  ((repeat ((conv => whnf); simp only [lenA_r, itemsA_r, lstA_r, lstC_s, Option.map_some, atI_0, ixN_0, mup_same, mup_mup, true_and, and_true, List.map_cons, List.map_nil, List.length_cons, List.length_map, List.length_nil, List.set_cons_zero, List.set_cons_succ, List.cons_append, List.nil_append, List.getElem?_cons_zero, List.getElem?_cons_succ, m4.l])); (conv => whnf))
  rw [cf1]
  intro b5 h5
  have m5 := m4.new (c := .lst ((W.drop 1).map Dv.str)) h5
  have l_b5 : mup M4 b5 (.lst ((W.drop 1).map Dv.str)) b5 = some (.lst ((W.drop 1).map Dv.str)) := mup_same
  have B5 : But p q Mx (mup M4 b5 (.lst ((W.drop 1).map Dv.str))) := B4.new h5
  have p5 := look_new (x := .lst ((W.drop 1).map Dv.str)) p4 h5
  have q5 := look_new (x := .lst ((W.drop 1).map Dv.str)) l_b4 h5
  generalize mup M4 b5 (.lst ((W.drop 1).map Dv.str)) = M5 at m5 l_b5 B5 p5 q5 ⊢
  refine ⟨_, _, q5, l_b5, le_line (by rw [List.length_map, List.length_map, List.length_append]; show _ + 1 + _ ≤ 1000000; omega), fun b6 h6 => fz_new h6 ?_⟩
  rw [← List.map_append]
  decreasing_tactic
  have a8 := kw.a8
  obtain ⟨J, hJ⟩ : ∃ J, J = Txt.join (" " : Str) (W.take 1 ++ [("" : Str)] ++ W.drop 1) := ⟨_, rfl⟩
  have jl : J.length ≤ 1200 := by
    have := a8.m.len
    rw [← hJ, Str.length_append] at this
    omega
  have sm : ((W.take 1 ++ [("" : Str)] ++ W.drop 1).map (·.length)).sum + (W.take 1 ++ [("" : Str)] ++ W.drop 1).length * (" " : Str).length ≤ 16777216 := by
    have q := sum_le (ys := W.take 1 ++ [("" : Str)] ++ W.drop 1) (B := 40) fun y hy => by
      rcases List.mem_append.mp hy with z | z
      · rcases List.mem_append.mp z with z | z
        · exact (wk.wd y (List.mem_of_mem_take z)).2.2
        · rw [List.mem_singleton.mp z]; decide
      · exact (wk.wd y (List.mem_of_mem_drop z)).2.2
    have ll : (W.take 1 ++ [("" : Str)] ++ W.drop 1).length ≤ 27 := by
      rw [List.length_append, List.length_append]
      show _ + 1 + _ ≤ 27
      omega
    have h4 : (" " : Str).length = 1 := by decide
    rw [h4]
    omega
  refine ⟨W.take 1 ++ [("" : Str)] ++ W.drop 1, rfl, sm, ?_⟩
  rw [← hJ] at a8 ⊢
  clear sm hJ m1 m2 m3 m4 p2 p3 p4 q3 q5 l1 l_b2 l_b3 l_b4 l_b5 h1 h2 h3 h4 h5 B1 B2 B3 B4
  have l1 : (" " : Str).length = 1 := by decide
  decreasing_tactic
  intro c1 g1
  have n1 := m5.new (c := .lst [Dv.str (J ++ (" " : Str))]) g1
  have l_c1 : mup M5 c1 (.lst [Dv.str (J ++ (" " : Str))]) c1 = some (.lst [Dv.str (J ++ (" " : Str))]) := mup_same
  have C1 : But p q Mx (mup M5 c1 (.lst [Dv.str (J ++ (" " : Str))])) := B5.new g1
  have r1 := look_new (x := .lst [Dv.str (J ++ (" " : Str))]) p5 g1
  generalize mup M5 c1 (.lst [Dv.str (J ++ (" " : Str))]) = N1 at n1 l_c1 C1 r1 ⊢
  refine ⟨_, _, r1, l_c1, le_line (by rw [n7]; show 7 + 1 ≤ 1000000; decide), ?_⟩
  intro c2 g2
  have n2 := n1.new (c := .lst (L7 ++ [Dv.str (J ++ (" " : Str))])) g2
  have l_c2 : mup N1 c2 (.lst (L7 ++ [Dv.str (J ++ (" " : Str))])) c2 = some (.lst (L7 ++ [Dv.str (J ++ (" " : Str))])) := mup_same
  have C2 : But p q Mx (mup N1 c2 (.lst (L7 ++ [Dv.str (J ++ (" " : Str))]))) := C1.new g2
  generalize mup N1 c2 (.lst (L7 ++ [Dv.str (J ++ (" " : Str))])) = N2 at n2 l_c2 C2 ⊢
  have i0 : atI (W.map Dv.str) 0 = some (.str w) := by rw [eW]; exact atI_0 _ _
  have wl : w.length ≤ 40 := (wk.wd w (by rw [eW]; exact List.mem_cons_self ..)).2.2
  ((repeat ((conv => whnf); simp only [lenA_r, itemsA_r, lstA_r, lstC_s, Option.map_some, atI_0, ixN_0, mup_same, mup_mup, true_and, and_true, List.map_cons, List.map_nil, List.length_cons, List.length_map, List.length_nil, List.set_cons_zero, List.set_cons_succ, List.cons_append, List.nil_append, List.getElem?_cons_zero, List.getElem?_cons_succ, n2.l, i0])); (conv => whnf))
  refine ⟨by omega, ?_⟩
  decreasing_tactic
  intro d1 e1
  have o1 := n2.new (c := .lst [Dv.str (w ++ ("s" : Str))]) e1
  have l_d1 : mup N2 d1 (.lst [Dv.str (w ++ ("s" : Str))]) d1 = some (.lst [Dv.str (w ++ ("s" : Str))]) := mup_same
  have D1 : But p q Mx (mup N2 d1 (.lst [Dv.str (w ++ ("s" : Str))])) := C2.new e1
  have r2 := look_new (x := .lst [Dv.str (w ++ ("s" : Str))]) l_c2 e1
  generalize mup N2 d1 (.lst [Dv.str (w ++ ("s" : Str))]) = O1 at o1 l_d1 D1 r2 ⊢
  refine ⟨_, _, r2, l_d1, le_line (by rw [List.length_append, n7]; show 7 + 1 + 1 ≤ 1000000; decide), fun d2 e2 => fz_new e2 ?_⟩
  decreasing_tactic
  refine ⟨p, q, _, _, rfl, .inl rfl, o1.d, by simp, by rw [List.length_append, List.length_append, n7]; show 7 + 1 + 1 ≤ 1000000; decide, fun d Md hs dd bd => ?_⟩
  obtain ⟨r, hr, rfl⟩ : ∃ r, BadR hd r ∧ d = .str r := by
    rcases List.mem_append.mp hs with z | z
    · rcases List.mem_append.mp z with z | z
      · exact g7 d z
      · rw [List.mem_singleton.mp z]; exact ⟨_, a8, rfl⟩
    · rw [List.mem_singleton.mp z]
      exact ⟨_, (eW ▸ kw : RowK hd (w :: rest)).a9, rfl⟩
  rw [hc]
  exact ⟨_, HC.Sub.refl _, k r Md dd (D1.trans bd) hr⟩
theorem spec_law_bad_row : ∀ ds M Q, sp_law_bad_row ds M Q → t_law_bad_row (retD Q) (startA 6 ds) M := by
  rintro ds M Q ⟨p, q, hd, W, rfl, dp, kw, k⟩
  have sz := kw.size
  have wk := kw.words
  have own := kw.own
  obtain ⟨w, rest, eW, kk⟩ := kw.first
  have sp : Txt.split (Txt.join (" " : Str) W) (" " : Str) = W := split_ws (by rw [eW]; exact List.cons_ne_nil _ _) wk.ws
  obtain ⟨R, hR⟩ : ∃ R, R = Txt.join (" " : Str) W := ⟨_, rfl⟩
  rw [← hR] at sz sp own ⊢
  have big : (16777216 : Nat) = sizeLine := by decide
  decreasing_tactic
  refine ⟨rfl, ?_⟩
  decreasing_tactic
  rw [sp]
  intro a ha
  have ap := dp.nep ha
  have aq := dp.neq ha
  have lA : mup M a (.lst (W.map Dv.str)) a = some (.lst (W.map Dv.str)) := mup_same
  have da : DPot p q (mup M a (.lst (W.map Dv.str))) := dp.put ap aq
  have ba : But p q M (mup M a (.lst (W.map Dv.str))) := (But.refl p q M).put ha
  generalize mup M a (.lst (W.map Dv.str)) = Ma at lA da ba ⊢
  decreasing_tactic
  refine ⟨p, q, _, rfl, da, by decide, by decide, fun v Mv dv bv vl => ?_⟩
  have lV := bv.at ap aq lA
  have bV := ba.trans bv
  clear lA da ba bv
  decreasing_tactic
  have A := fun (c : Ends') (hc : c.rt = (retD Q).rt) => badrow_a kw hR c hc Mv lV dv fun r M' d b h => k r M' d (bV.trans b) h
  have pW : Pl 9 (.rol (W.map Dv.str)) := words_pl fun v hv => ⟨(wk.wd v hv).2.1, Nat.le_trans (wk.wd v hv).2.2 (by decide)⟩
  have pL : Pl 9 (.rol [Dv.str ("lost" : Str)]) := words_pl (ws := [("lost" : Str)]) fun v hv => by rw [List.mem_singleton.mp hv]; exact ⟨row_const.1.asc, by decide⟩
  split
  · exact A _ rfl
  · decreasing_tactic
    refine ⟨_, lV, pW, pL, ?_⟩
    by_cases hl : W = [("lost" : Str)]
    · have e : (W.map Dv.str = [Dv.str ("lost" : Str)]) = True := eq_true (by rw [hl]; rfl)
      simp only [e, decide_true]
      exact A _ rfl
    · have e : (W.map Dv.str = [Dv.str ("lost" : Str)]) = False := eq_false fun z => hl (map_str_inj (ys := [("lost" : Str)]) z)
      simp only [e, decide_false]
      have i0 : atI (W.map Dv.str) 0 = some (.str w) := by rw [eW]; exact atI_0 _ _
      have pw : Pl 9 (Dv.str w) := lay_asc (wk.wd w (by rw [eW]; exact List.mem_cons_self ..)).2.1
      have kr := (eW ▸ kw : RowK hd (w :: rest)).rest
      have kW : RowK hd (w :: rest) := eW ▸ kw
      have Wl : W.length = rest.length + 1 := by rw [eW]; rfl
      have Wl2 : (W.map Dv.str).length = rest.length + 1 := by rw [List.length_map]; exact Wl
      have wk25 := wk.ln
      have r1 : 1 ≤ rest.length := by
        rcases kk with ⟨_, h⟩ | ⟨_, h | h | h | h⟩
        · have := kr.1 h; omega
        · exact absurd (by rw [eW, h, kr.2.1 h]) hl
        · exact kr.2.2.2.2 h
        · have := kr.2.2.1 h; omega
        · have := kr.2.2.2.1 h; omega
      have st : ∀ (i : Nat) (x : Str), (W.map Dv.str).set i (.str x) = (W.set i x).map Dv.str := fun i x => by rw [List.map_set]
      have h4 : (" " : Str).length = 1 := by decide
      have smS : ∀ (i : Nat) (x : Str), x.length ≤ 40 → ((W.set i x).map (·.length)).sum + (W.set i x).length * (" " : Str).length ≤ 16777216 := fun i x hx => by
        have q := sum_le (ys := W.set i x) (B := 40) fun y hy => by
          rcases List.mem_or_eq_of_mem_set hy with z | z
          · exact (wk.wd y z).2.2
          · rw [z]; exact hx
        rw [h4]
        rw [List.length_set] at q ⊢
        omega
      have W0 : W ≠ [] := by rw [eW]; exact List.cons_ne_nil _ _
      ((repeat ((conv => whnf); simp only [lenA_r, itemsA_r, lstA_r, lstC_s, Option.map_some, atI_0, ixN_0, mup_same, mup_mup, true_and, and_true, List.map_cons, List.map_nil, List.length_cons, List.length_map, List.length_nil, List.set_cons_zero, List.set_cons_succ, List.cons_append, List.nil_append, List.getElem?_cons_zero, List.getElem?_cons_succ, lV, i0])); (conv => whnf))
      refine ⟨pw, lay_words.2.1, ?_⟩
      by_cases wd : w = ("disk" : Str)
      · have e : (Dv.str w = Dv.str ("disk" : Str)) = True := eq_true (by rw [wd])
        simp only [e, decide_true]
        ((repeat ((conv => whnf); simp only [lenA_r, itemsA_r, lstA_r, lstC_s, Option.map_some, atI_0, ixN_0, mup_same, mup_mup, true_and, and_true, List.map_cons, List.map_nil, List.length_cons, List.length_map, List.length_nil, List.set_cons_zero, List.set_cons_succ, List.cons_append, List.nil_append, List.getElem?_cons_zero, List.getElem?_cons_succ, lV])); (conv => whnf))
        refine ⟨p, q, ((rest.length : Nat) : Int), by rw [Wl, show ((rest.length + 1 : Nat) : Int) - 1 = ((rest.length : Nat) : Int) by omega], dv, by omega, by omega, fun i Mi di bi il => ?_⟩
        have lI := bi.at ap aq lV
        have bI := bV.trans bi
        have i25 : i < rest.length := by omega
        decreasing_tactic
        rw [show (1 : Int) + (i : Int) = ((1 + i : Nat) : Int) by omega]
        decreasing_tactic
        refine ⟨p, q, rfl, di, fun x Mb db bb hx => ?_⟩
        have lB := bb.at ap aq lI
        have bB := bI.trans bb
        have ix : ixN (rest.length + 1) ((1 + i : Nat) : Int) = some (1 + i) := ixN_nat (by omega)
        ((repeat ((conv => whnf); simp only [lenA_r, itemsA_r, lstA_r, lstC_s, Option.map_some, atI_0, ixN_0, mup_same, mup_mup, true_and, and_true, List.map_cons, List.map_nil, List.length_cons, List.length_map, List.length_nil, List.set_cons_zero, List.set_cons_succ, List.cons_append, List.nil_append, List.getElem?_cons_zero, List.getElem?_cons_succ, lB, Wl, ix])); (conv => whnf))
        rw [st]
        have lC : mup Mb a (.lst ((W.set (1 + i) x).map Dv.str)) a = some (.lst ((W.set (1 + i) x).map Dv.str)) := mup_same
        have dC : DPot p q (mup Mb a (.lst ((W.set (1 + i) x).map Dv.str))) := db.put ap aq
        have bC : But p q M (mup Mb a (.lst ((W.set (1 + i) x).map Dv.str))) := bB.put ha
        generalize mup Mb a (.lst ((W.set (1 + i) x).map Dv.str)) = Mc at lC dC bC ⊢
        have bx := badB_facts x hx
        have i1 : atI ((W.set (1 + i) x).map Dv.str) ((1 + i : Nat) : Int) = some (.str x) := HC.atI_nat (by rw [List.getElem?_map, List.getElem?_set_self (by omega)]; rfl)
        have g1 : BadR hd (Txt.join (" " : Str) (W.set (1 + i) x)) := by rw [eW]; exact kW.b1 hx i25 (.inl wd)
        have l6 : ("disks " : Str).length = 6 := by decide
        have lx := bx.2.1
        have sm := smS (1 + i) x (by omega)
        decreasing_tactic
        refine ⟨rfl, ?_⟩
        ((repeat ((conv => whnf); simp only [lenA_r, itemsA_r, lstA_r, lstC_s, Option.map_some, atI_0, ixN_0, mup_same, mup_mup, true_and, and_true, List.map_cons, List.map_nil, List.length_cons, List.length_map, List.length_nil, List.set_cons_zero, List.set_cons_succ, List.cons_append, List.nil_append, List.getElem?_cons_zero, List.getElem?_cons_succ, lC])); (conv => whnf))
        refine ⟨W.set (1 + i) x, rfl, sm, ?_⟩
        ((repeat ((conv => whnf); simp only [lenA_r, itemsA_r, lstA_r, lstC_s, Option.map_some, atI_0, ixN_0, mup_same, mup_mup, true_and, and_true, List.map_cons, List.map_nil, List.length_cons, List.length_map, List.length_nil, List.set_cons_zero, List.set_cons_succ, List.cons_append, List.nil_append, List.getElem?_cons_zero, List.getElem?_cons_succ, lC, i1])); (conv => whnf))
        refine ⟨by omega, ?_⟩
        decreasing_tactic
        refine ⟨rfl, ?_⟩
        ((repeat ((conv => whnf); simp only [lenA_r, itemsA_r, lstA_r, lstC_s, Option.map_some, atI_0, ixN_0, mup_same, mup_mup, true_and, and_true, List.map_cons, List.map_nil, List.length_cons, List.length_map, List.length_nil, List.set_cons_zero, List.set_cons_succ, List.cons_append, List.nil_append, List.getElem?_cons_zero, List.getElem?_cons_succ, lC])); (conv => whnf))
        refine ⟨W.set (1 + i) x, rfl, sm, ?_⟩
        decreasing_tactic
        refine ⟨p, q, _, _, rfl, .inl rfl, dC, List.cons_ne_nil _ _, by simp, fun d Md hs dd bd => ?_⟩
        obtain ⟨r, hr, rfl⟩ : ∃ r, BadR hd r ∧ d = .str r := by
          simp only [List.mem_cons, List.not_mem_nil, or_false] at hs
          rcases hs with rfl | rfl | rfl | rfl
          · exact ⟨_, g1, rfl⟩
          · exact ⟨_, bad_b2 hx, rfl⟩
          · exact ⟨_, kW.b3 wd, rfl⟩
          · exact ⟨_, g1, rfl⟩
        exact retEnd (k r Md dd (bC.trans bd) hr)
      · have e : (Dv.str w = Dv.str ("disk" : Str)) = False := eq_false fun z => wd (by injection z)
        simp only [e, decide_false]
        have Dp : ∀ Mx, Mx a = some (.lst (W.map Dv.str)) → DPot p q Mx → But p q M Mx → tk_law_bad_row_4 (retD Q) (List.set (startA 6 [Dv.ref p, Dv.str R]) 2 (some (Dv.ref a))) Mx := fun Mx lX dX bX => by
          have mX : MemA p q a (W.map Dv.str) Mx := ⟨dX, lX⟩
          ((repeat ((conv => whnf); simp only [lenA_r, itemsA_r, lstA_r, lstC_s, Option.map_some, atI_0, ixN_0, mup_same, mup_mup, true_and, and_true, List.map_cons, List.map_nil, List.length_cons, List.length_map, List.length_nil, List.set_cons_zero, List.set_cons_succ, List.cons_append, List.nil_append, List.getElem?_cons_zero, List.getElem?_cons_succ, lX])); (conv => whnf))
          refine ⟨by show 2 ≤ sizeLine; decide, fun u hu => fz_new hu ?_⟩
          ((repeat ((conv => whnf); simp only [lenA_r, itemsA_r, lstA_r, lstC_s, Option.map_some, atI_0, ixN_0, mup_same, mup_mup, true_and, and_true, List.map_cons, List.map_nil, List.length_cons, List.length_map, List.length_nil, List.set_cons_zero, List.set_cons_succ, List.cons_append, List.nil_append, List.getElem?_cons_zero, List.getElem?_cons_succ, lX, i0])); (conv => whnf))
          refine ⟨pw, lay_words.2.2.2.1, ?_⟩
          decreasing_tactic
          obtain ⟨m, em, m0, m1, m2⟩ : ∃ m : Nat, atI [Dv.int ((W.length : Int) - 1), Dv.int 2] (if @decide (Dv.str w = Dv.str ("note" : Str)) (Classical.propDecidable _) = true then 1 else 0) = some (.int (m : Int)) ∧ 0 < m ∧ m ≤ rest.length ∧ (w = ("note" : Str) → m ≤ 2) := by
            by_cases wn : w = ("note" : Str)
            · rw [dec_T (show Dv.str w = Dv.str ("note" : Str) by rw [wn])]
              exact ⟨2, rfl, by decide, by have := kr.2.2.1 wn; omega, fun _ => Nat.le_refl _⟩
            · rw [dec_F (show ¬ Dv.str w = Dv.str ("note" : Str) from fun z => wn (by injection z))]
              exact ⟨rest.length, by rw [Wl, show ((rest.length + 1 : Nat) : Int) - 1 = ((rest.length : Nat) : Int) by omega]; rfl, by omega, Nat.le_refl _, fun z => absurd z wn⟩
          rw [em]
          decreasing_tactic
          refine ⟨p, q, (m : Int), rfl, dX, by omega, by omega, fun i Mi di bi il => ?_⟩
          have lI := bi.at ap aq lX
          have bI := bX.trans bi
          have im : i < m := by omega
          decreasing_tactic
          rw [show (1 : Int) + (i : Int) = ((1 + i : Nat) : Int) by omega]
          decreasing_tactic
          refine ⟨p, q, rfl, di, fun x Mb db bb hx => ?_⟩
          have lB := bb.at ap aq lI
          have bB := bI.trans bb
          have ix : ixN (rest.length + 1) ((1 + i : Nat) : Int) = some (1 + i) := ixN_nat (by omega)
          ((repeat ((conv => whnf); simp only [lenA_r, itemsA_r, lstA_r, lstC_s, Option.map_some, atI_0, ixN_0, mup_same, mup_mup, true_and, and_true, List.map_cons, List.map_nil, List.length_cons, List.length_map, List.length_nil, List.set_cons_zero, List.set_cons_succ, List.cons_append, List.nil_append, List.getElem?_cons_zero, List.getElem?_cons_succ, lB, Wl, ix])); (conv => whnf))
          rw [st]
          have lC : mup Mb a (.lst ((W.set (1 + i) x).map Dv.str)) a = some (.lst ((W.set (1 + i) x).map Dv.str)) := mup_same
          have dC : DPot p q (mup Mb a (.lst ((W.set (1 + i) x).map Dv.str))) := db.put ap aq
          have bC : But p q M (mup Mb a (.lst ((W.set (1 + i) x).map Dv.str))) := bB.put ha
          generalize mup Mb a (.lst ((W.set (1 + i) x).map Dv.str)) = Mc at lC dC bC ⊢
          have bx := badN_facts x hx
          have lx := bx.2.1
          have sm := smS (1 + i) x (by omega)
          have g1 : BadR hd (Txt.join (" " : Str) (W.set (1 + i) x)) := by rw [eW]; exact kW.d1 hx (by omega) wd fun z => by have := m2 z; omega
          have g2 : BadR hd (R ++ (" 1" : Str)) := by
            rw [(cat_more R).2, hR, ← join_snoc W0]
            exact kw.a3 no_more.2 wdQ_const.2.2.1 fun z => absurd (by rw [eW] at z; injection z) wd
          have tk : W.take rest.length = (w :: rest).take ((rest.length - 1) + 1) := by rw [eW, show rest.length - 1 + 1 = rest.length by omega]
          have g3 : BadR hd (Txt.join (" " : Str) (W.take rest.length)) := by rw [tk]; exact kW.less (n := rest.length - 1) (by omega) wd
          have l3 : (" 1" : Str).length = 2 := by decide
          have smT : ((W.take rest.length).map (·.length)).sum + (W.take rest.length).length * (" " : Str).length ≤ 16777216 := by
            have q := sum_le (ys := W.take rest.length) (B := 40) fun y hy => (wk.wd y (List.mem_of_mem_take hy)).2.2
            have : (W.take rest.length).length ≤ W.length := List.length_take_le' _ _
            rw [h4]
            omega
          have cN : cutA ((Txt.split R (" " : Str)).map Dv.str) none (some (-1)) = (W.take rest.length).map Dv.str := by
            rw [sp, cut_last, Wl2, Nat.add_sub_cancel, List.map_take]
          refine ⟨rfl, ?_⟩
          decreasing_tactic
          refine ⟨rfl, ?_⟩
          decreasing_tactic
          refine ⟨W.take rest.length, cN, smT, ?_⟩
          decreasing_tactic
          refine ⟨rfl, ?_⟩
          ((repeat ((conv => whnf); simp only [lenA_r, itemsA_r, lstA_r, lstC_s, Option.map_some, atI_0, ixN_0, mup_same, mup_mup, true_and, and_true, List.map_cons, List.map_nil, List.length_cons, List.length_map, List.length_nil, List.set_cons_zero, List.set_cons_succ, List.cons_append, List.nil_append, List.getElem?_cons_zero, List.getElem?_cons_succ, lC])); (conv => whnf))
          refine ⟨W.set (1 + i) x, rfl, sm, ?_⟩
          decreasing_tactic
          refine ⟨rfl, ?_⟩
          ((repeat ((conv => whnf); simp only [lenA_r, itemsA_r, lstA_r, lstC_s, Option.map_some, atI_0, ixN_0, mup_same, mup_mup, true_and, and_true, List.map_cons, List.map_nil, List.length_cons, List.length_map, List.length_nil, List.set_cons_zero, List.set_cons_succ, List.cons_append, List.nil_append, List.getElem?_cons_zero, List.getElem?_cons_succ, lC])); (conv => whnf))
          refine ⟨W.set (1 + i) x, rfl, sm, ?_⟩
          decreasing_tactic
          refine ⟨p, q, _, _, rfl, .inl rfl, dC, List.cons_ne_nil _ _, by simp, fun d Md hs dd bd => ?_⟩
          obtain ⟨r, hr, rfl⟩ : ∃ r, BadR hd r ∧ d = .str r := by
            simp only [List.mem_cons, List.not_mem_nil, or_false] at hs
            rcases hs with rfl | rfl | rfl | rfl
            · exact ⟨_, g1, rfl⟩
            · exact ⟨_, g1, rfl⟩
            · exact ⟨_, g2, rfl⟩
            · exact ⟨_, g3, rfl⟩
          exact retEnd (k r Md dd (bC.trans bd) hr)
        ((repeat ((conv => whnf); simp only [lenA_r, itemsA_r, lstA_r, lstC_s, Option.map_some, atI_0, ixN_0, mup_same, mup_mup, true_and, and_true, List.map_cons, List.map_nil, List.length_cons, List.length_map, List.length_nil, List.set_cons_zero, List.set_cons_succ, List.cons_append, List.nil_append, List.getElem?_cons_zero, List.getElem?_cons_succ, lV, i0])); (conv => whnf))
        refine ⟨pw, lay_words.2.2.2.1, ?_⟩
        by_cases wn : w = ("note" : Str)
        · have e : (Dv.str w = Dv.str ("note" : Str)) = True := eq_true (by rw [wn])
          simp only [e, decide_true]
          decreasing_tactic
          refine ⟨p, q, _, rfl, dv, by decide, by decide, fun u Mu du bu ul => ?_⟩
          have lU := bu.at ap aq lV
          have bU := bV.trans bu
          decreasing_tactic
          split
          · decreasing_tactic
            refine ⟨p, q, rfl, du, fun x Mb db bb hx => ?_⟩
            have lB := bb.at ap aq lU
            have bB := bU.trans bb
            have r3 := kr.2.2.1 wn
            have ix : ixN (rest.length + 1) 3 = some 3 := ixN_nat (i := 3) (by omega)
            ((repeat ((conv => whnf); simp only [lenA_r, itemsA_r, lstA_r, lstC_s, Option.map_some, atI_0, ixN_0, mup_same, mup_mup, true_and, and_true, List.map_cons, List.map_nil, List.length_cons, List.length_map, List.length_nil, List.set_cons_zero, List.set_cons_succ, List.cons_append, List.nil_append, List.getElem?_cons_zero, List.getElem?_cons_succ, lB, Wl, ix])); (conv => whnf))
            rw [st]
            have lC : mup Mb a (.lst ((W.set 3 x).map Dv.str)) a = some (.lst ((W.set 3 x).map Dv.str)) := mup_same
            have dC : DPot p q (mup Mb a (.lst ((W.set 3 x).map Dv.str))) := db.put ap aq
            have bC : But p q M (mup Mb a (.lst ((W.set 3 x).map Dv.str))) := bB.put ha
            generalize mup Mb a (.lst ((W.set 3 x).map Dv.str)) = Mc at lC dC bC ⊢
            have bx := badB_facts x hx
            have lx := bx.2.1
            have g1 : BadR hd (Txt.join (" " : Str) (W.set 3 x)) := by rw [eW]; exact kW.b1 (i := 2) hx (by omega) (.inr ⟨wn, rfl⟩)
            have g2 : BadR hd (Txt.join (" " : Str) (W.take 3)) := by rw [eW]; exact kW.less (n := 2) (by omega) wd
            have g3 : BadR hd (R ++ (" 00" : Str)) := by
              rw [(cat_more R).1, hR, ← join_snoc W0]
              exact kw.a3 no_more.1 wdQ_const.2.1 fun z => absurd (by rw [eW] at z; injection z) wd
            have l3 : (" 00" : Str).length = 3 := by decide
            have sm := smS 3 x (by omega)
            have smT : ((W.take 3).map (·.length)).sum + (W.take 3).length * (" " : Str).length ≤ 16777216 := by
              have q := sum_le (ys := W.take 3) (B := 40) fun y hy => (wk.wd y (List.mem_of_mem_take hy)).2.2
              have : (W.take 3).length ≤ 3 := List.length_take_le _ _
              rw [h4]
              omega
            have c3 : cutA ((W.set 3 x).map Dv.str) none (some 3) = (W.take 3).map Dv.str := (cutA_to _ 3).trans (by rw [← List.map_take, List.take_set_of_le (Nat.le_refl 3)])
            refine ⟨rfl, ?_⟩
            ((repeat ((conv => whnf); simp only [lenA_r, itemsA_r, lstA_r, lstC_s, Option.map_some, atI_0, ixN_0, mup_same, mup_mup, true_and, and_true, List.map_cons, List.map_nil, List.length_cons, List.length_map, List.length_nil, List.set_cons_zero, List.set_cons_succ, List.cons_append, List.nil_append, List.getElem?_cons_zero, List.getElem?_cons_succ, lC])); (conv => whnf))
            refine ⟨W.set 3 x, rfl, sm, ?_⟩
            decreasing_tactic
            refine ⟨rfl, ?_⟩
            ((repeat ((conv => whnf); simp only [lenA_r, itemsA_r, lstA_r, lstC_s, Option.map_some, atI_0, ixN_0, mup_same, mup_mup, true_and, and_true, List.map_cons, List.map_nil, List.length_cons, List.length_map, List.length_nil, List.set_cons_zero, List.set_cons_succ, List.cons_append, List.nil_append, List.getElem?_cons_zero, List.getElem?_cons_succ, lC])); (conv => whnf))
            rw [c3]
            decreasing_tactic
            refine ⟨W.take 3, rfl, smT, ?_⟩
            decreasing_tactic
            refine ⟨p, q, _, _, rfl, .inl rfl, dC, List.cons_ne_nil _ _, by simp, fun d Md hs dd bd => ?_⟩
            obtain ⟨r, hr, rfl⟩ : ∃ r, BadR hd r ∧ d = .str r := by
              simp only [List.mem_cons, List.not_mem_nil, or_false] at hs
              rcases hs with rfl | rfl | rfl
              · exact ⟨_, g1, rfl⟩
              · exact ⟨_, g2, rfl⟩
              · exact ⟨_, g3, rfl⟩
            exact retEnd (k r Md dd (bC.trans bd) hr)
          · exact Dp Mu lU du bU
        · have e : (Dv.str w = Dv.str ("note" : Str)) = False := eq_false fun z => wn (by injection z)
          simp only [e, decide_false]
          exact Dp Mv lV dv bV
theorem ok_law_bad_row (T : Tx K mg) : FnA P w K mg base 4 T.f_law_bad_row T.d_law_bad_row [("_law_pot_here" : Str), ("_law_row" : Str)] sp_law_bad_row :=
  fnA T.F_law_bad_row sc_law_bad_row len_law_bad_row (fun cdv A outer s H E hr => by
    have hu1 := hu_of hr
    have hu64 := hr.units
    exact (ass_cons (as_set 2 sc_law_bad_row.nd (ae_split (av 1) (aa_cons ae_str aa_nil)))
    (ass_cons (as_if (AW.pt (aw_or (at_eq hu64 (ae_call (ok_law_next T) (hr.mono (by decide)) T.m_law_next T.F_law_next.kp T.b_law_next (aa_cons (av 0) (aa_cons ae_int aa_nil))) ae_int) (aw_or1 (at_eq hu64 (av 2) (ae_fz (ae_lst (aa_cons ae_str aa_nil))))))) (ass_cons (as_set 3 sc_law_bad_row.nd (ae_lst (aa_cons ae_str (aa_cons (ae_add ae_str (av 1)) (aa_cons (ae_add (av 1) ae_str) (aa_cons (ae_upp (av 1)) (aa_cons (ae_add ae_str (av 1)) (aa_cons (ae_add (av 1) ae_str) (aa_cons ae_str aa_nil)))))))))
    (ass_cons (as_set 3 sc_law_bad_row.nd (ae_add (av 3) (ae_lst (aa_cons (ae_add (ae_join ae_str (aa_cons (ae_fz (ae_add (ae_add (ae_slice (av 2) ao_none (ao_some ae_int)) (ae_lst (aa_cons ae_str aa_nil))) (ae_slice (av 2) (ao_some ae_int) ao_none))) aa_nil)) ae_str) aa_nil))))
    (ass_one (as_ret (ae_call (ok_law_one_of T) (hr.mono (by decide)) T.m_law_one_of T.F_law_one_of.kp T.b_law_one_of (aa_cons (av 0) (aa_cons (ae_fz (ae_add (av 3) (ae_lst (aa_cons (ae_add (ae_ix hu1 (av 2) ae_int) ae_str) aa_nil)))) aa_nil))))))) ass_nil)
    (ass_cons (as_if (at_eq hu64 (ae_ix hu1 (av 2) ae_int) ae_str) (ass_cons (as_set 4 sc_law_bad_row.nd (ae_add ae_int (ae_call (ok_law_next T) (hr.mono (by decide)) T.m_law_next T.F_law_next.kp T.b_law_next (aa_cons (av 0) (aa_cons (ae_sub (ae_callB call_len abc_len (aa_cons (av 2) aa_nil) T.n_len boot_len) ae_int) aa_nil)))))
    (ass_cons (as_asg (ae_call (ok_law_bad_block T) (hr.mono (by decide)) T.m_law_bad_block T.F_law_bad_block.kp T.b_law_bad_block (aa_cons (av 0) aa_nil)) (ag_sub hu1 (av 2) (av 4)))
    (ass_one (as_ret (ae_call (ok_law_one_of T) (hr.mono (by decide)) T.m_law_one_of T.F_law_one_of.kp T.b_law_one_of (aa_cons (av 0) (aa_cons (ae_fz (ae_lst (aa_cons (ae_join ae_str (aa_cons (av 2) aa_nil)) (aa_cons (ae_add ae_str (ae_ix hu1 (av 2) (av 4))) (aa_cons ae_str (aa_cons (ae_join ae_str (aa_cons (av 2) aa_nil)) aa_nil)))))) aa_nil))))))) ass_nil)
    (ass_cons (as_if (AW.pt (aw_and (at_eq hu64 (ae_ix hu1 (av 2) ae_int) ae_str) (aw_and1 (at_eq hu64 (ae_call (ok_law_next T) (hr.mono (by decide)) T.m_law_next T.F_law_next.kp T.b_law_next (aa_cons (av 0) (aa_cons ae_int aa_nil))) ae_int)))) (ass_cons (as_asg (ae_call (ok_law_bad_block T) (hr.mono (by decide)) T.m_law_bad_block T.F_law_bad_block.kp T.b_law_bad_block (aa_cons (av 0) aa_nil)) (ag_sub hu1 (av 2) ae_int))
    (ass_one (as_ret (ae_call (ok_law_one_of T) (hr.mono (by decide)) T.m_law_one_of T.F_law_one_of.kp T.b_law_one_of (aa_cons (av 0) (aa_cons (ae_fz (ae_lst (aa_cons (ae_join ae_str (aa_cons (av 2) aa_nil)) (aa_cons (ae_join ae_str (aa_cons (ae_fz (ae_slice (av 2) ao_none (ao_some ae_int))) aa_nil)) (aa_cons (ae_add (av 1) ae_str) aa_nil))))) aa_nil)))))) ass_nil)
    (ass_cons (as_set 4 sc_law_bad_row.nd (ae_add ae_int (ae_call (ok_law_next T) (hr.mono (by decide)) T.m_law_next T.F_law_next.kp T.b_law_next (aa_cons (av 0) (aa_cons (ae_ix hu1 (ae_fz (ae_lst (aa_cons (ae_sub (ae_callB call_len abc_len (aa_cons (av 2) aa_nil) T.n_len boot_len) ae_int) (aa_cons ae_int aa_nil)))) (ae_callTy call_int1 abc_int (aa_cons (ae_eq hu64 (ae_ix hu1 (av 2) ae_int) ae_str) aa_nil) T.n_int boot_int)) aa_nil)))))
    (ass_cons (as_asg (ae_call (ok_law_bad_number T) (hr.mono (by decide)) T.m_law_bad_number T.F_law_bad_number.kp T.b_law_bad_number (aa_cons (av 0) aa_nil)) (ag_sub hu1 (av 2) (av 4)))
    (ass_cons (as_set 5 sc_law_bad_row.nd (ae_join ae_str (aa_cons (ae_fz (ae_slice (ae_fz (ae_split (av 1) (aa_cons ae_str aa_nil))) ao_none (ao_some (ae_neg ae_int)))) aa_nil)))
    (ass_one (as_ret (ae_call (ok_law_one_of T) (hr.mono (by decide)) T.m_law_one_of T.F_law_one_of.kp T.b_law_one_of (aa_cons (av 0) (aa_cons (ae_fz (ae_lst (aa_cons (ae_join ae_str (aa_cons (av 2) aa_nil)) (aa_cons (ae_join ae_str (aa_cons (av 2) aa_nil)) (aa_cons (ae_add (av 1) ae_str) (aa_cons (av 5) aa_nil)))))) aa_nil))))))))))))) spec_law_bad_row
def sp_law_block : ASp := fun ds M Q => ∃ p q, ∃ size : Nat, ds = [.ref p, dn size] ∧ DPot p q M ∧ size ≤ 1000 ∧
  ∀ (b : Blk) M', DPot p q M' → But p q M M' → BlkOk' b size → Q (bD b) M'
def tk_law_block_2 : RS := (aRet (aFn acTup (aCons (aFz (aLc (aiR1 (aCons (aVar 1) aNil)) (.nm 4) [4] aYes (aOp aMod (aOp aAdd (aOp aAdd (aVar 2) (aOp aMul (aVar 3) (aVar 4))) (aOp aMul (aVar 4) (aVar 4))) (aC (.int 256))))) aNil)))
def tk_law_block_1 : RS := aSeq (aAsg (aCall sp_law_next (aCons (aVar 0) (aCons (aC (.int 256)) aNil))) (agName 3)) (tk_law_block_2)
def t_law_block : RS := aSeq (aAsg (aCall sp_law_next (aCons (aVar 0) (aCons (aC (.int 256)) aNil))) (agName 2)) (tk_law_block_1)
theorem len_law_block : ∀ ds M Q, sp_law_block ds M Q → ds.length = 2 := by
  rintro ds M Q ⟨p, q, size, rfl, _⟩
  rfl
theorem spec_law_block : ∀ ds M Q, sp_law_block ds M Q → t_law_block (retD Q) (startA 5 ds) M := by
  rintro ds M Q ⟨p, q, size, rfl, hd, hz, k⟩
  decreasing_tactic
  (refine ⟨_, _, _, rfl, by assumption, (by infer_instance), (by infer_instance), fun a Ma da ba la => ?_⟩; decreasing_tactic)
  (refine ⟨_, _, _, rfl, by assumption, (by infer_instance), (by infer_instance), fun b Mb db bb lb => ?_⟩; decreasing_tactic)
  have ok : BlkOk' ((List.range size).map fun i => (a + b * i + i * i) % 256) size := ⟨by simp, fun x hx => by
    obtain ⟨i, _, rfl⟩ := List.mem_map.mp hx
    exact Nat.mod_lt _ (by decide)⟩
  have kk := k _ Mb db (ba.trans bb) ok
  refine lcF (fun i => dn ((a + b * i + i * i) % 256)) (fun _ => trivial) (by rw [rangeA_len]; exact le_line (by omega)) (fun i d hi M' N hs q => ?_) ?_
  · obtain ⟨hi, rfl⟩ := rangeA_get hi
    refine ⟨_, rfl, ?_⟩
    rw [Int.zero_add]
    have hi : i < size := by omega
    decreasing_tactic
    exact q
  · rw [rangeA_len, Int.toNat_natCast]
    simp only [bD, List.map_map] at kk
    decreasing_tactic
    exact retEnd kk
theorem ok_law_block (T : Tx K mg) : FnA P w K mg base 2 T.f_law_block T.d_law_block [("_law_pot_here" : Str), ("_law_size" : Str)] sp_law_block :=
  fnA T.F_law_block sc_law_block len_law_block (fun cdv A outer s H E hr => by
    have hu1 := hu_of hr
    have hu64 := hr.units
    exact (ass_cons (as_set 2 sc_law_block.nd (ae_call (ok_law_next T) (hr.mono (by decide)) T.m_law_next T.F_law_next.kp T.b_law_next (aa_cons (av 0) (aa_cons ae_int aa_nil))))
    (ass_cons (as_set 3 sc_law_block.nd (ae_call (ok_law_next T) (hr.mono (by decide)) T.m_law_next T.F_law_next.kp T.b_law_next (aa_cons (av 0) (aa_cons ae_int aa_nil))))
    (ass_one (as_ret (ae_callTy call_tuple_of abc_tup (aa_cons (ae_fz (ae_lc (own := [(("_law_k" : Str), 4)]) (tg := (.nm 4)) (by decide) rfl sc_law_block.nd (ai_range1 T.n_range (aa_cons (av 1) aa_nil)) (blkOk_by (own := [(("_law_k" : Str), 4)]) (N := N_law_block) (sc := defScope s_law_block) (by decide +kernel)) (fun _ _ _ _ _ => (pgt_name 4 sc_law_block.nd)) (fun _ _ _ _ _ => ats_nil) (fun _ _ _ _ _ => (ae_mod (ae_add (ae_add (av 2) (ae_mul (av 3) (av 4))) (ae_mul (av 4) (av 4))) ae_int)))) aa_nil) T.n_tuple boot_tuple)))))) spec_law_block
def sp_law_count : ASp := fun ds M Q => ∃ p q, ∃ a b : Int, ds = [.ref p, .int a, .int b] ∧ DPot p q M ∧ 0 ≤ a ∧ a < 1000000 ∧ 0 ≤ b ∧ b < 1000000 ∧
  ∀ (v : Nat) M', DPot p q M' → But p q M M' → (v : Int) ≤ max a b → Q (dn v) M'
def t_law_count : RS := (aRet (aCall sp_law_next (aCons (aVar 0) (aCons (aOp aAdd (aOp aIx (aFz (aLst (aCons (aVar 1) (aCons (aVar 2) aNil)))) (aFn acInt (aCons (aOp aEq (aCall sp_law_next (aCons (aVar 0) (aCons (aC (.int 8)) aNil))) (aC (.int 0))) aNil))) (aC (.int 1))) aNil))))
theorem len_law_count : ∀ ds M Q, sp_law_count ds M Q → ds.length = 3 := by
  rintro ds M Q ⟨p, q, a, b, rfl, _⟩
  rfl
theorem spec_law_count : ∀ ds M Q, sp_law_count ds M Q → t_law_count (retD Q) (startA 3 ds) M := by
  rintro ds M Q ⟨p, q, a, b, rfl, hd, a0, a1, b0, b1, k⟩
  decreasing_tactic
  (refine ⟨_, _, _, rfl, by assumption, (by infer_instance), (by infer_instance), fun v Mv dv bv lv => ?_⟩; decreasing_tactic)
  by_cases hv : dn v = Dv.int 0
  · rw [dec_T hv]
    decreasing_tactic
    (refine ⟨_, _, _, rfl, by assumption, (by infer_instance), (by infer_instance), fun w Mw dw bw lw => ?_⟩; decreasing_tactic)
    exact retEnd (k w Mw dw (bv.trans bw) (by omega))
  · rw [dec_F hv]
    decreasing_tactic
    (refine ⟨_, _, _, rfl, by assumption, (by infer_instance), (by infer_instance), fun w Mw dw bw lw => ?_⟩; decreasing_tactic)
    exact retEnd (k w Mw dw (bv.trans bw) (by omega))
theorem ok_law_count (T : Tx K mg) : FnA P w K mg base 2 T.f_law_count T.d_law_count [("_law_pot_here" : Str), ("_law_most" : Str), ("_law_great" : Str)] sp_law_count :=
  fnA T.F_law_count sc_law_count len_law_count (fun cdv A outer s H E hr => by
    have hu1 := hu_of hr
    have hu64 := hr.units
    exact (ass_one (as_ret (ae_call (ok_law_next T) (hr.mono (by decide)) T.m_law_next T.F_law_next.kp T.b_law_next (aa_cons (av 0) (aa_cons (ae_add (ae_ix hu1 (ae_fz (ae_lst (aa_cons (av 1) (aa_cons (av 2) aa_nil)))) (ae_callTy call_int1 abc_int (aa_cons (ae_eq hu64 (ae_call (ok_law_next T) (hr.mono (by decide)) T.m_law_next T.F_law_next.kp T.b_law_next (aa_cons (av 0) (aa_cons ae_int aa_nil))) ae_int) aa_nil) T.n_int boot_int)) ae_int) aa_nil)))))) spec_law_count
def sp_law_disk : ASp := fun ds M Q => ∃ p q, ∃ h : Head, ∃ many, ds = [.ref p, h.d] ∧ DPot p q M ∧ h.Ok many ∧
  ∀ (k : Disk) M', DPot p q M' → But p q M M' → DiskOk k h.size h.rows → Q (kD k) M'
def tk_law_disk_3 : RS := (aRet (aFn acTup (aCons (aVar 2) aNil)))
def tk_law_disk_2 : RS := aSeq (aFor (aiR1 (aCons (aOp aIx (aVar 1) (aC (.int 2))) aNil)) (agName 3) (aSeq (aAsg (aCall sp_law_block (aCons (aVar 0) (aCons (aOp aIx (aVar 1) (aC (.int 1))) aNil))) (agName 4))
    (aSeq (aIfS (aB (aOp aEq (aCall sp_law_next (aCons (aVar 0) (aCons (aC (.int 6)) aNil))) (aC (.int 0)))) (aAsg (aC .non) (agName 4)) aNext)
    (aDrop (aMth "list" amApp (aVar 2) (aCons (aVar 4) aNil)))))) (tk_law_disk_3)
def tk_law_disk_1 : RS := aSeq (aAsg (aLst aNil) (agName 2)) (tk_law_disk_2)
def t_law_disk : RS := aSeq (aIfS (aB (aOp aEq (aCall sp_law_next (aCons (aVar 0) (aCons (aC (.int 6)) aNil))) (aC (.int 0)))) (aRet (aC .non)) aNext) (tk_law_disk_1)
theorem len_law_disk : ∀ ds M Q, sp_law_disk ds M Q → ds.length = 2 := by
  rintro ds M Q ⟨p, q, h, many, rfl, _⟩
  rfl
theorem spec_law_disk : ∀ ds M Q, sp_law_disk ds M Q → t_law_disk (retD Q) (startA 5 ds) M := by
  rintro ds M Q ⟨p, q, h, many, rfl, hd, hh, k⟩
  have i1 : atI [dn h.par, dn h.size, dn h.rows, dn h.width, dn h.moved, dn h.spares] 1 = some (dn h.size) := rfl
  have i2 : atI [dn h.par, dn h.size, dn h.rows, dn h.width, dn h.moved, dn h.spares] 2 = some (dn h.rows) := rfl
  have r2 := hh.rows2
  have s2 := hh.size2
  decreasing_tactic
  (refine ⟨_, _, _, rfl, by assumption, (by infer_instance), (by infer_instance), fun a Ma da ba la => ?_⟩; decreasing_tactic)
  by_cases ha : a = 0
  · subst ha
    decreasing_tactic
    exact retEnd (k none _ da ba (fun bs e => nomatch e))
  decreasing_tactic
  intro r hr
  have rp := da.nep hr
  have rq := da.neq hr
  have dr := da.put (c := .lst []) rp rq
  decreasing_tactic
  refine forW_inv (fun i ρ M' => ∃ x3 x4, ∃ bs : List (Option Blk), ρ = [some (.ref p), some h.d, some (.ref r), x3, x4] ∧ DPot p q M' ∧ But p q Ma (mdel M' r) ∧ M' r = some (.lst (bs.map oD)) ∧ bs.length = i ∧ ∀ o ∈ bs, ∀ b, o = some b → BlkOk' b h.size) ⟨none, none, [], rfl, dr, (But.put (But.refl p q Ma) hr).del hr, mup_same, rfl, fun o ho => by simp at ho⟩ (fun _ _ _ _ _ => trivial) ?_ ?_
  · rintro i d ρ M' hi ⟨x3, x4, bs, rfl, hd, hb, hl, hlen, hbs⟩
    obtain ⟨hi, rfl⟩ := rangeA_get hi
    decreasing_tactic
    refine ⟨p, q, h.size, rfl, hd, by omega, fun b Mb db bb okb => ?_⟩
    decreasing_tactic
    (refine ⟨_, _, _, rfl, by assumption, (by infer_instance), (by infer_instance), fun c Mc dc bc lc => ?_⟩; decreasing_tactic)
    have hl2 := bc.at rp rq (bb.at rp rq hl)
    have app : ∀ (o : Option Blk) x4, (∀ b, o = some b → BlkOk' b h.size) → wk (fun ρ M' => ∃ x3 x4, ∃ bs : List (Option Blk), ρ = [some (.ref p), some h.d, some (.ref r), x3, x4] ∧ DPot p q M' ∧ But p q Ma (mdel M' r) ∧ M' r = some (.lst (bs.map oD)) ∧ bs.length = i + 1 ∧ ∀ o ∈ bs, ∀ b, o = some b → BlkOk' b h.size)
        [some (.ref p), some h.d, some (.ref r), some (.int (0 + (i : Int))), x4] (mup Mc r (.lst (bs.map oD ++ [oD o]))) := fun o x4 ho => by
      refine wk_of ⟨_, _, bs ++ [o], rfl, dc.put rp rq, ?_, ?_, by simp [hlen], fun o2 h2 => ?_⟩
      · rw [mdel_put]
        have b1 := hb.trans ((bb.trans bc).mdel2 (r := r))
        exact b1
      · rw [mup_same]; simp
      · rcases List.mem_append.mp h2 with h3 | h3
        · exact hbs o2 h3
        · rw [List.mem_singleton.mp h3]; exact ho
    by_cases hc : c = 0
    · subst hc
      decreasing_tactic
      exact app none _ (fun b e => nomatch e)
    · decreasing_tactic
      exact app (some b) _ (fun b e => by cases e; exact okb)
  · rintro ρ M' ⟨x3, x4, bs, rfl, hd, hb, hl, hlen, hbs⟩
    rw [rangeA_len] at hlen
    decreasing_tactic
    refine retSub mdel_sub (k (some bs) _ (hd.del rp rq) (ba.trans hb) fun bs' e => ?_)
    cases e
    exact ⟨by omega, hbs⟩
theorem ok_law_disk (T : Tx K mg) : FnA P w K mg base 3 T.f_law_disk T.d_law_disk [("_law_pot_here" : Str), ("_law_head_here" : Str)] sp_law_disk :=
  fnA T.F_law_disk sc_law_disk len_law_disk (fun cdv A outer s H E hr => by
    have hu1 := hu_of hr
    have hu64 := hr.units
    exact (ass_cons (as_if (at_eq hu64 (ae_call (ok_law_next T) (hr.mono (by decide)) T.m_law_next T.F_law_next.kp T.b_law_next (aa_cons (av 0) (aa_cons ae_int aa_nil))) ae_int) (ass_one (as_ret ae_non)) ass_nil)
    (ass_cons (as_set 2 sc_law_disk.nd (ae_lst aa_nil))
    (ass_cons (as_for PassesOwn.never rfl (ai_range1 T.n_range (aa_cons (ae_ix hu1 (av 1) ae_int) aa_nil)) (ag_name 3 sc_law_disk.nd) (ass_cons (as_set 4 sc_law_disk.nd (ae_call (ok_law_block T) (hr.mono (by decide)) T.m_law_block T.F_law_block.kp T.b_law_block (aa_cons (av 0) (aa_cons (ae_ix hu1 (av 1) ae_int) aa_nil))))
    (ass_cons (as_if (at_eq hu64 (ae_call (ok_law_next T) (hr.mono (by decide)) T.m_law_next T.F_law_next.kp T.b_law_next (aa_cons (av 0) (aa_cons ae_int aa_nil))) ae_int) (ass_one (as_set 4 sc_law_disk.nd ae_non)) ass_nil)
    (ass_one (as_expr (ae_append (av 2) (aa_cons (av 4) aa_nil)))))))
    (ass_one (as_ret (ae_callTy call_tuple_of abc_tup (aa_cons (av 2) aa_nil) T.n_tuple boot_tuple))))))) spec_law_disk
def sp_law_head : ASp := fun ds M Q => ∃ p q, ds = [.ref p] ∧ DPot p q M ∧
  ∀ (h : Head) (many : Nat) M', DPot p q M' → But p q M M' → h.Ok many → Q (.tup [h.d, dn many]) M'
def tk_law_head_7 : RS := (aRet (aTup (aCons (aVar 7) (aCons (aOp aAdd (aVar 4) (aFn acInt (aCons (aVar 5) aNil))) aNil))))
def tk_law_head_6 : RS := aSeq (aAsg (aTup (aCons (aVar 1) (aCons (aVar 2) (aCons (aVar 3) (aCons (aVar 4) (aCons (aVar 6) (aCons (aCall sp_law_count (aCons (aVar 0) (aCons (aC (.int 3)) (aCons (aC (.int 999)) aNil)))) aNil))))))) (agName 7)) (tk_law_head_7)
def tk_law_head_5 : RS := aSeq (aAsg (aOp aMul (aCall sp_law_next (aCons (aVar 0) (aCons (aVar 3) aNil))) (aFn acInt (aCons (aVar 5) aNil))) (agName 6)) (tk_law_head_6)
def tk_law_head_4 : RS := aSeq (aAsg (aAndV (aOp aLt (aVar 4) (aC (.int 10))) (aOp aEq (aCall sp_law_next (aCons (aVar 0) (aCons (aC (.int 2)) aNil))) (aC (.int 1)))) (agName 5)) (tk_law_head_5)
def tk_law_head_3 : RS := aSeq (aAsg (aOp aAdd (aOp aAdd (aVar 1) (aC (.int 1))) (aCall sp_law_count (aCons (aVar 0) (aCons (aC (.int 3)) (aCons (aOp aSub (aC (.int 9)) (aVar 1)) aNil))))) (agName 4)) (tk_law_head_4)
def tk_law_head_2 : RS := aSeq (aAsg (aOp aAdd (aC (.int 1)) (aCall sp_law_count (aCons (aVar 0) (aCons (aC (.int 4)) (aCons (aC (.int 23)) aNil))))) (agName 3)) (tk_law_head_3)
def tk_law_head_1 : RS := aSeq (aAsg (aOp aAdd (aC (.int 1)) (aCall sp_law_count (aCons (aVar 0) (aCons (aC (.int 3)) (aCons (aC (.int 15)) aNil))))) (agName 2)) (tk_law_head_2)
def t_law_head : RS := aSeq (aAsg (aOp aAdd (aC (.int 1)) (aCall sp_law_next (aCons (aVar 0) (aCons (aC (.int 2)) aNil)))) (agName 1)) (tk_law_head_1)
theorem len_law_head : ∀ ds M Q, sp_law_head ds M Q → ds.length = 1 := by
  rintro ds M Q ⟨p, q, rfl, _⟩
  rfl
theorem spec_law_head : ∀ ds M Q, sp_law_head ds M Q → t_law_head (retD Q) (startA 8 ds) M := by
  rintro ds M Q ⟨p, q, rfl, hd, k⟩
  decreasing_tactic
  (refine ⟨_, _, _, rfl, by assumption, (by infer_instance), (by infer_instance), fun a Ma da ba la => ?_⟩; decreasing_tactic)
  (refine ⟨_, _, _, _, rfl, by assumption, (by infer_instance), (by infer_instance), (by infer_instance), (by infer_instance), fun b Mb db bb lb => ?_⟩; decreasing_tactic)
  (refine ⟨_, _, _, _, rfl, by assumption, (by infer_instance), (by infer_instance), (by infer_instance), (by infer_instance), fun c Mc dc bc lc => ?_⟩; decreasing_tactic)
  (refine ⟨_, _, _, _, rfl, by assumption, (by infer_instance), (by infer_instance), (by infer_instance), (by infer_instance), fun e Me de be le => ?_⟩; decreasing_tactic)
  by_cases hw : (1 : Int) + a + 1 + e < 10
  · refine onIf_decT hw ?_
    decreasing_tactic
    (refine ⟨_, _, _, rfl, by assumption, (by infer_instance), (by infer_instance), fun g Mg dg bg lg => ?_⟩; decreasing_tactic)
    by_cases hg : g = 1
    · subst hg
      rw [dec_T (show dn 1 = Dv.int 1 from rfl)]
      decreasing_tactic
      (refine ⟨_, _, _, rfl, by assumption, (by infer_instance), (by infer_instance), fun m Mm dm bm lm => ?_⟩; decreasing_tactic)
      (refine ⟨_, _, _, _, rfl, by assumption, (by infer_instance), (by infer_instance), (by infer_instance), (by infer_instance), fun s Ms ds bs ls => ?_⟩; decreasing_tactic)
      simp only [if_true, Int.mul_one]
      refine retEnd (k ⟨1 + a, 1 + b, 1 + c, 1 + a + 1 + e, m, s⟩ (1 + a + 1 + e + 1) _ ds ((((((ba.trans bb).trans bc).trans be).trans bg).trans bm).trans bs) ?_)
      exact headOk (by omega) (by omega) (by omega) (by omega) (by omega) (by omega) (by omega) (by omega) (.inr ⟨rfl, by omega, by omega⟩) (by omega)
    · rw [dec_F (show ¬ dn g = Dv.int 1 from fun h => hg (by have := Dv.int.inj h; omega))]
      decreasing_tactic
      (refine ⟨_, _, _, rfl, by assumption, (by infer_instance), (by infer_instance), fun m Mm dm bm lm => ?_⟩; decreasing_tactic)
      (refine ⟨_, _, _, _, rfl, by assumption, (by infer_instance), (by infer_instance), (by infer_instance), (by infer_instance), fun s Ms ds bs ls => ?_⟩; decreasing_tactic)
      simp only [Bool.false_eq_true, if_false, Int.mul_zero, Int.add_zero]
      refine retEnd (k ⟨1 + a, 1 + b, 1 + c, 1 + a + 1 + e, 0, s⟩ (1 + a + 1 + e) _ ds ((((((ba.trans bb).trans bc).trans be).trans bg).trans bm).trans bs) ?_)
      exact headOk (by omega) (by omega) (by omega) (by omega) (by omega) (by omega) (by omega) (by omega) (.inl ⟨rfl, rfl⟩) (by omega)
  · refine onIf_decF hw ?_
    decreasing_tactic
    (refine ⟨_, _, _, rfl, by assumption, (by infer_instance), (by infer_instance), fun m Mm dm bm lm => ?_⟩; decreasing_tactic)
    (refine ⟨_, _, _, _, rfl, by assumption, (by infer_instance), (by infer_instance), (by infer_instance), (by infer_instance), fun s Ms ds bs ls => ?_⟩; decreasing_tactic)
    simp only [Bool.false_eq_true, if_false, Int.mul_zero, Int.add_zero]
    refine retEnd (k ⟨1 + a, 1 + b, 1 + c, 1 + a + 1 + e, 0, s⟩ (1 + a + 1 + e) _ ds (((((ba.trans bb).trans bc).trans be).trans bm).trans bs) ?_)
    exact headOk (by omega) (by omega) (by omega) (by omega) (by omega) (by omega) (by omega) (by omega) (.inl ⟨rfl, rfl⟩) (by omega)
theorem ok_law_head (T : Tx K mg) : FnA P w K mg base 3 T.f_law_head T.d_law_head [("_law_pot_here" : Str)] sp_law_head :=
  fnA T.F_law_head sc_law_head len_law_head (fun cdv A outer s H E hr => by
    have hu1 := hu_of hr
    have hu64 := hr.units
    exact (ass_cons (as_set 1 sc_law_head.nd (ae_add ae_int (ae_call (ok_law_next T) (hr.mono (by decide)) T.m_law_next T.F_law_next.kp T.b_law_next (aa_cons (av 0) (aa_cons ae_int aa_nil)))))
    (ass_cons (as_set 2 sc_law_head.nd (ae_add ae_int (ae_call (ok_law_count T) (hr.mono (by decide)) T.m_law_count T.F_law_count.kp T.b_law_count (aa_cons (av 0) (aa_cons ae_int (aa_cons ae_int aa_nil))))))
    (ass_cons (as_set 3 sc_law_head.nd (ae_add ae_int (ae_call (ok_law_count T) (hr.mono (by decide)) T.m_law_count T.F_law_count.kp T.b_law_count (aa_cons (av 0) (aa_cons ae_int (aa_cons ae_int aa_nil))))))
    (ass_cons (as_set 4 sc_law_head.nd (ae_add (ae_add (av 1) ae_int) (ae_call (ok_law_count T) (hr.mono (by decide)) T.m_law_count T.F_law_count.kp T.b_law_count (aa_cons (av 0) (aa_cons ae_int (aa_cons (ae_sub ae_int (av 1)) aa_nil))))))
    (ass_cons (as_set 5 sc_law_head.nd (ae_and (ae_lt (av 4) ae_int) (ae_and1 (ae_eq hu64 (ae_call (ok_law_next T) (hr.mono (by decide)) T.m_law_next T.F_law_next.kp T.b_law_next (aa_cons (av 0) (aa_cons ae_int aa_nil))) ae_int))))
    (ass_cons (as_set 6 sc_law_head.nd (ae_mul (ae_call (ok_law_next T) (hr.mono (by decide)) T.m_law_next T.F_law_next.kp T.b_law_next (aa_cons (av 0) (aa_cons (av 3) aa_nil))) (ae_callTy call_int1 abc_int (aa_cons (av 5) aa_nil) T.n_int boot_int)))
    (ass_cons (as_set 7 sc_law_head.nd (ae_tup (aa_cons (av 1) (aa_cons (av 2) (aa_cons (av 3) (aa_cons (av 4) (aa_cons (av 6) (aa_cons (ae_call (ok_law_count T) (hr.mono (by decide)) T.m_law_count T.F_law_count.kp T.b_law_count (aa_cons (av 0) (aa_cons ae_int (aa_cons ae_int aa_nil)))) aa_nil))))))))
    (ass_one (as_ret (ae_tup (aa_cons (av 7) (aa_cons (ae_add (av 4) (ae_callTy call_int1 abc_int (aa_cons (av 5) aa_nil) T.n_int boot_int)) aa_nil))))))))))))) spec_law_head
def sp_law_pot : ASp := fun ds M Q => ∃ ns : List Int, ds = [.rol (ns.map Dv.int)] ∧ ns.length ≤ 63 ∧ ∀ p q M', DPot p q M' → Sub M M' → Q (.ref p) M'
def tk_law_pot_3 : RS := (aRet (aDisp (((aC (.str ("own" : Str))), (aVar 2)) :: (((aC (.str ("left" : Str))), (aC (.int 0))) :: (((aC (.str ("seed" : Str))), (aVar 1)) :: (((aC (.str ("many" : Str))), (aC (.int 0))) :: []))))))
def tk_law_pot_2 : RS := aSeq (aFor (aiSeq (aVar 0)) (agName 3) (aSeq (aAsg (aOp aMod (aOp aAdd (aOp aAdd (aOp aMul (aVar 1) (aC (.int 48271))) (aOp aMod (aVar 3) (aC (.int 2147483629)))) (aC (.int 7))) (aC (.int 2305843009213693951))) (agName 1))
    (aIfS (aB (aOp aGe (aVar 3) (aOp aPow (aC (.int 10)) (aC (.int 18))))) (aDrop (aMth "list" amApp (aVar 2) (aCons (aVar 3) aNil))) aNext))) (tk_law_pot_3)
def tk_law_pot_1 : RS := aSeq (aAsg (aLst aNil) (agName 2)) (tk_law_pot_2)
def t_law_pot : RS := aSeq (aAsg (aC (.int 11)) (agName 1)) (tk_law_pot_1)
theorem len_law_pot : ∀ ds M Q, sp_law_pot ds M Q → ds.length = 1 := by
  rintro ds M Q ⟨ns, rfl, _⟩
  rfl
theorem spec_law_pot : ∀ ds M Q, sp_law_pot ds M Q → t_law_pot (retD Q) (startA 4 ds) M := by
  rintro ds M Q ⟨ns, rfl, hl, k⟩
  (conv => whnf)
  refine ⟨Nat.zero_le _, fun q hq => ?_⟩
  (conv => whnf)
  refine forW_inv (fun i ρ M' => ∃ own : List Int, ∃ seed : Int, ∃ x3, 0 ≤ seed ∧ (∀ x ∈ own, 0 ≤ x) ∧ own.length ≤ i ∧ ρ = [some (.rol (ns.map Dv.int)), some (.int seed), some (.ref q), x3] ∧ M' = mup M q (.lst (own.map Dv.int))) ⟨[], 11, none, by decide, by simp, by simp, rfl, rfl⟩ (fun _ _ _ _ _ => rfl) ?_ ?_
  · rintro i d ρ M' hd ⟨own, seed, x3, h0, ho, hlen, rfl, rfl⟩
    have hi := (List.getElem?_eq_some_iff.mp hd).1
    rw [List.length_map] at hi
    rw [List.getElem?_map] at hd
    obtain ⟨c, hc, rfl⟩ := Option.map_eq_some_iff.mp hd
    (conv => whnf)
    refine ⟨.inl (.inr ⟨by decide, by decide⟩), ?_⟩
    (conv => whnf)
    refine ⟨(by first | decide | omega | (dsimp only; decide) | (dsimp only; omega)), ?_⟩
    (conv => whnf)
    refine ⟨(by first | decide | omega | (dsimp only; decide) | (dsimp only; omega)), ?_⟩
    (conv => whnf)
    refine ⟨⟨by decide, by decide, by decide⟩, ?_⟩
    (conv => whnf)
    refine onIf_dec (fun hg => ?_) (fun _ => ?_)
    · have hg : (10 : Int) ^ (18 : Int).toNat ≤ c := hg
      have h18 : (0 : Int) ≤ (10 : Int) ^ (18 : Int).toNat := by decide
      (conv => whnf)
      refine ⟨tyM_list mup_same, ?_⟩
      ((repeat ((conv => whnf); simp only [lenA_r, itemsA_r, lstA_r, lstC_s, Option.map_some, atI_0, ixN_0, mup_same, mup_mup, true_and, and_true, List.map_cons, List.map_nil, List.length_cons, List.length_map, List.length_nil, List.set_cons_zero, List.set_cons_succ, List.cons_append, List.nil_append, List.getElem?_cons_zero, List.getElem?_cons_succ])); (conv => whnf))
      refine ⟨lt_line (by omega), ?_⟩
      refine wk_of ⟨own ++ [c], _, _, Int.emod_nonneg _ (by decide), fun x hx => ?_, by simp; omega, rfl, by rw [List.map_append]; rfl⟩
      rcases List.mem_append.mp hx with h | h
      · exact ho x h
      · rw [List.mem_singleton.mp h]; exact Int.le_trans h18 hg
    · refine wk_of ⟨own, _, _, Int.emod_nonneg _ (by decide), ho, by omega, rfl, rfl⟩
  · rintro ρ M' ⟨own, seed, x3, h0, ho, hlen, rfl, rfl⟩
    rw [List.length_map] at hlen
    (conv => whnf)
    intro p hp
    have hqp : q ≠ p := ne_of_new mup_same hp
    (conv => whnf)
    refine ⟨mup_same, ?_⟩
    dsimp only [keysP, keyD, Option.bind, Option.map, onS, mergeA, List.foldl]
    refine ⟨show 4 ≤ 15 by decide, ?_⟩
    rw [mup_mup]
    refine retSub (Sub.refl _) (k p q _ ⟨hqp.symm, ⟨0, seed, 0, mup_same, by decide, h0, by decide⟩, own, by rw [mup_ne hqp, mup_same], ho, by omega⟩ ((Sub.new hq).trans (Sub.new hp)))
theorem ok_law_pot (T : Tx K mg) : FnA P w K mg base 1 T.f_law_pot T.d_law_pot [("_law_script" : Str)] sp_law_pot :=
  fnA T.F_law_pot sc_law_pot len_law_pot (fun cdv A outer s H E hr => by
    have hu1 := hu_of hr
    have hu64 := hr.units
    exact (ass_cons (as_set 1 sc_law_pot.nd ae_int)
    (ass_cons (as_set 2 sc_law_pot.nd (ae_lst aa_nil))
    (ass_cons (as_for PassesOwn.never rfl (ai_seq (av 0)) (ag_name 3 sc_law_pot.nd) (ass_cons (as_set 1 sc_law_pot.nd (ae_mod (ae_add (ae_add (ae_mul (av 1) ae_int) (ae_mod (av 3) ae_int)) ae_int) ae_int))
    (ass_one (as_if (at_ge (av 3) (ae_pow ae_int ae_int)) (ass_one (as_expr (ae_append (av 2) (aa_cons (av 3) aa_nil)))) ass_nil))))
    (ass_one (as_ret (ae_disp (app_cons ae_str (av 2) (app_cons ae_str ae_int (app_cons ae_str (av 1) (app_cons ae_str ae_int app_nil)))) rfl rfl (fun z => by cases z) (by decide)))))))) spec_law_pot
def sp_Draft___init__ : ASp := fun ds M Q => ∃ M0 p, ds = [.ref p] ∧ Sub M0 M ∧ M0 p = none ∧ M p = some (.obj ("Draft" : Str) []) ∧ ∀ M', DrAt M0 M' p ⟨none, [], []⟩ → Q .non M'
def tk_Draft___init___2 : RS := (asFld ("Draft" : Str) ("notes" : Str) (aVar 0) (aLst aNil))
def tk_Draft___init___1 : RS := aSeq (asFld ("Draft" : Str) ("disks" : Str) (aVar 0) (aLst aNil)) (tk_Draft___init___2)
def t_Draft___init__ : RS := aSeq (asFld ("Draft" : Str) ("head" : Str) (aVar 0) (aC .non)) (tk_Draft___init___1)
theorem len_Draft___init__ : ∀ ds M Q, sp_Draft___init__ ds M Q → ds.length = 1 := by
  rintro ds M Q ⟨M0, p, rfl, _⟩
  rfl
theorem spec_Draft___init__ : ∀ ds M Q, sp_Draft___init__ ds M Q → t_Draft___init__ (retD Q) (startA 1 ds) M := by
  rintro ds M Q ⟨M0, p, rfl, sb, p0, hp, k⟩
  have e1 := objC_l hp
  ((repeat ((conv => whnf); simp only [lenA_r, itemsA_r, lstA_r, lstC_s, Option.map_some, atI_0, ixN_0, mup_same, mup_mup, true_and, and_true, List.map_cons, List.map_nil, List.length_cons, List.length_map, List.length_nil, List.set_cons_zero, List.set_cons_succ, List.cons_append, List.nil_append, List.getElem?_cons_zero, List.getElem?_cons_succ, e1])); (conv => whnf))
  refine ⟨by decide, ?_⟩
  rw [dr_head0]
  decreasing_tactic
  intro l1 hl1
  have n1 : p ≠ l1 := ne_of_new mup_same hl1
  rw [mup_ne n1.symm] at hl1
  have hp1 : mup (mup M p (.obj ("Draft" : Str) [(("head" : Str), .non)])) l1 (.lst []) p = some (.obj ("Draft" : Str) [(("head" : Str), .non)]) := by rw [mup_ne n1]; exact mup_same
  have h1 : mup (mup M p (.obj ("Draft" : Str) [(("head" : Str), .non)])) l1 (.lst []) l1 = some (.lst []) := mup_same
  have s1 : Sub M0 (mup (mup M p (.obj ("Draft" : Str) [(("head" : Str), .non)])) l1 (.lst [])) := (sb.mut p0).mut (sb.free hl1)
  have a1 : M0 l1 = none := sb.free hl1
  generalize mup (mup M p (.obj ("Draft" : Str) [(("head" : Str), .non)])) l1 (.lst []) = M1 at hp1 h1 s1 ⊢
  have e2 := objC_l hp1
  ((repeat ((conv => whnf); simp only [lenA_r, itemsA_r, lstA_r, lstC_s, Option.map_some, atI_0, ixN_0, mup_same, mup_mup, true_and, and_true, List.map_cons, List.map_nil, List.length_cons, List.length_map, List.length_nil, List.set_cons_zero, List.set_cons_succ, List.cons_append, List.nil_append, List.getElem?_cons_zero, List.getElem?_cons_succ, e2])); (conv => whnf))
  refine ⟨by decide, ?_⟩
  rw [dr_disks0]
  decreasing_tactic
  intro l2 hl2
  have n2 : p ≠ l2 := ne_of_new mup_same hl2
  rw [mup_ne n2.symm] at hl2
  have n3 : l1 ≠ l2 := ne_of_new h1 hl2
  have hp2 : mup (mup M1 p (.obj ("Draft" : Str) [(("head" : Str), .non), (("disks" : Str), .ref l1)])) l2 (.lst []) p = some (.obj ("Draft" : Str) [(("head" : Str), .non), (("disks" : Str), .ref l1)]) := by rw [mup_ne n2]; exact mup_same
  have e3 := objC_l hp2
  ((repeat ((conv => whnf); simp only [lenA_r, itemsA_r, lstA_r, lstC_s, Option.map_some, atI_0, ixN_0, mup_same, mup_mup, true_and, and_true, List.map_cons, List.map_nil, List.length_cons, List.length_map, List.length_nil, List.set_cons_zero, List.set_cons_succ, List.cons_append, List.nil_append, List.getElem?_cons_zero, List.getElem?_cons_succ, e3])); (conv => whnf))
  refine ⟨by decide, ?_⟩
  rw [dr_notes0]
  refine retEnd (k _ ⟨((s1.mut p0).mut (s1.free hl2)).mut p0, p0, l1, l2, a1, s1.free hl2, n1, n2, n3, mup_same, ?_, ?_⟩)
  · rw [mup_ne n1.symm, mup_ne n3, mup_ne n1.symm]
    exact h1
  · rw [mup_ne n2.symm]
    exact mup_same
theorem ok_Draft___init__ (T : Tx K mg) : FnA P w K mg base 1 T.f_Draft___init__ T.d_Draft___init__ [("self" : Str)] sp_Draft___init__ :=
  fnA T.F_Draft___init__ sc_Draft___init__ len_Draft___init__ (fun cdv A outer s H E hr => by
    have hu1 := hu_of hr
    have hu64 := hr.units
    exact (ass_cons (as_fld T.kl_Draft T.no_Draft_head (av 0) ae_non)
    (ass_cons (as_fld T.kl_Draft T.no_Draft_disks (av 0) (ae_lst aa_nil))
    (ass_one (as_fld T.kl_Draft T.no_Draft_notes (av 0) (ae_lst aa_nil)))))) spec_Draft___init__
def sp_block_in : ASp := fun ds M Q => ∃ w : Str, ds = [.str w] ∧ PySem.W.KSb.Asc w ∧ w.length ≤ 100000 ∧ isB w = true ∧ Q (oD (blkW w)) M
def tk_block_in_2 : RS := (aRet (aFn acTup (aCons (aFz (aLc (aiZipX (aCons (aFz (aSt2 0 (aVar 1))) (aCons (aFz (aSt2 1 (aVar 1))) aNil))) (.tp [(.nm 3), (.nm 4)]) [3, 4] aYes (aOp aAdd (aOp aMul (aC (.int 16)) (aVar 3)) (aVar 4)))) aNil)))
def tk_block_in_1 : RS := aSeq (aAsg (aFz (aLc (aiStr (aVar 0)) (.nm 2) [2] aYes (aMth "str" amIdxS (aC (.str ("0123456789abcdef" : Str))) (aCons (aVar 2) aNil)))) (agName 1)) (tk_block_in_2)
def t_block_in : RS := aSeq (aIfS (aB (aOp aEq (aVar 0) (aC (.str ("-" : Str))))) (aRet (aC .non)) aNext) (tk_block_in_1)
theorem len_block_in : ∀ ds M Q, sp_block_in ds M Q → ds.length = 1 := by
  rintro ds M Q ⟨w, rfl, _⟩
  rfl
theorem spec_block_in : ∀ ds M Q, sp_block_in ds M Q → t_block_in (retD Q) (startA 5 ds) M := by
  rintro ds M Q ⟨w, rfl, cl, wl, hb, k⟩
  have el : w.cps.toList.length = w.length := by simp [Str.length]
  have plw : Pl 9 (.str w) := lay_asc cl
  have pl0 : Pl 9 (.str ("-" : Str)) := lay_stroke
  unfold blkW at k
  decreasing_tactic
  by_cases h : w = ("-" : Str)
  · rw [dec_T (congrArg Dv.str h)]
    rw [if_pos h] at k
    decreasing_tactic
    exact retEnd k
  rw [dec_F (fun z => h (Dv.str.inj z))]
  rw [if_neg h] at k
  have hf : ∀ c ∈ w.cps.toList, isFig c = true := fun c hc => isB_figs hb h c hc
  decreasing_tactic
  refine lcM (fun d => dn (figI (sgC d))) (fun _ => trivial) (by simp only [HC.signs, List.length_map]; rw [el]; exact le_line (by omega)) (fun d hd M' N hs q => ?_) ?_
  · obtain ⟨c, hc, rfl⟩ := signs_mem hd
    refine ⟨_, rfl, ?_⟩
    decreasing_tactic
    exact ⟨rfl, figI c, [], (fig_find (hf c hc)).1, q⟩
  rw [signs_map (fun c => dn (figI c)) w]
  have eL : (w.cps.toList.map fun c => dn (figI c)) = (w.cps.toList.map figI).map fun n => dn n := by rw [List.map_map]; rfl
  rw [eL]
  have sl : ((w.cps.toList.map figI).map fun n => dn n).length = w.length := by rw [List.length_map, List.length_map, el]
  have pk : ∀ lo, nth2 lo ((w.cps.toList.map figI).map fun n => dn n) = (nth2 lo (w.cps.toList.map figI)).map fun n => dn n := fun lo => nth2_map _ _
  have lA := nth2_len 0 (w.cps.toList.map figI)
  rw [List.length_map, el] at lA
  have eV : (List.zip (nth2 0 (w.cps.toList.map figI)) (nth2 1 (w.cps.toList.map figI))).map (fun p => 16 * p.1 + p.2) = pairV (w.cps.toList.map figI) := rfl
  decreasing_tactic
  rw [pk, pk]
  generalize nth2 0 (w.cps.toList.map figI) = A at lA eV ⊢
  generalize nth2 1 (w.cps.toList.map figI) = B at eV ⊢
  rw [zip_dnW]
  refine lcM (fun d => match d with | .tup [.int a, .int b] => .int (16 * a + b) | _ => .non) (fun _ => ⟨rfl, rfl⟩) (by rw [List.length_map, List.length_zip]; exact le_line (by omega)) (fun d hd M' N hs q => ?_) ?_
  · obtain ⟨⟨a, b⟩, hab, rfl⟩ := List.mem_map.mp hd
    refine ⟨_, rfl, ?_⟩
    decreasing_tactic
    exact q
  have em : (((List.zip A B).map fun p : Nat × Nat => pairD (dn p.1) (dn p.2)).map fun d => match d with | .tup [.int a, .int b] => .int (16 * a + b) | _ => .non) = (pairV (w.cps.toList.map figI)).map fun n => dn n := by
    rw [← eV, List.map_map, List.map_map]
    exact List.map_congr_left fun p _ => congrArg Dv.int (show (16 * (p.1 : Int) + (p.2 : Int)) = ((16 * p.1 + p.2 : Nat) : Int) by omega)
  rw [em]
  decreasing_tactic
  exact retEnd k
theorem ok_block_in (T : Tx K mg) : FnA P w K mg base 1 T.f_block_in T.d_block_in [("word" : Str)] sp_block_in :=
  fnA T.F_block_in sc_block_in len_block_in (fun cdv A outer s H E hr => by
    have hu1 := hu_of hr
    have hu64 := hr.units
    exact (ass_cons (as_if (at_eq hu64 (av 0) ae_str) (ass_one (as_ret ae_non)) ass_nil)
    (ass_cons (as_fzset rfl (as_setLc 1 (own := [(("sign" : Str), 2)]) (tg := (.nm 2)) (by decide) rfl sc_block_in.nd rfl rfl (sw_true rfl rfl rfl (by decide +kernel)) (ai_str (av 0)) (blkOk_by (own := [(("sign" : Str), 2)]) (N := N_block_in) (sc := defScope s_block_in) (by decide +kernel)) (fun _ _ _ _ _ => (pgt_name 2 sc_block_in.nd)) (fun _ _ _ _ _ => ats_nil) (fun _ _ _ _ _ => (ae_idxS (ae_gstr rfl T.c_FIGURES.choose_spec) (aa_cons (av 2) aa_nil)))))
    (ass_one (as_ret (ae_callTy call_tuple_of abc_tup (aa_cons (ae_fz (ae_lc (own := [(("one" : Str), 3), (("other" : Str), 4)]) (tg := (.tp [(.nm 3), (.nm 4)])) (by decide) rfl sc_block_in.nd (ai_zipX T.n_zip (aa_cons (ae_fz (ae_st2a (av 1))) (aa_cons (ae_fz (ae_st2b (av 1))) aa_nil))) (blkOk_by (own := [(("one" : Str), 3), (("other" : Str), 4)]) (N := N_block_in) (sc := defScope s_block_in) (by decide +kernel)) (fun _ _ _ _ _ => (pgt_tup rfl (pgts_cons (pgt_name 3 sc_block_in.nd) (pgts_cons (pgt_name 4 sc_block_in.nd) pgts_nil)))) (fun _ _ _ _ _ => ats_nil) (fun _ _ _ _ _ => (ae_add (ae_mul ae_int (av 3)) (av 4))))) aa_nil) T.n_tuple boot_tuple)))))) spec_block_in
def sp_is_block_text : ASp := fun ds M Q => ∃ w : Str, ds = [.str w] ∧ PySem.W.KSb.Asc w ∧ w.length ≤ 100000 ∧ Q (.bl (isB w)) M
def tk_is_block_text_1 : RS := (aRet (aAndV (aOp aGt (aFn acLen (aCons (aVar 0) aNil)) (aC (.int 0))) (aAndV (aOp aEq (aOp aMod (aFn acLen (aCons (aVar 0) aNil)) (aC (.int 2))) (aC (.int 0))) (aFn acAll (aCons (aFz (aLc (aiStr (aVar 0)) (.nm 1) [1] aYes (aOp aInS (aVar 1) (aC (.str ("0123456789abcdef" : Str)))))) aNil)))))
def t_is_block_text : RS := aSeq (aIfS (aB (aOp aEq (aVar 0) (aC (.str ("-" : Str))))) (aRet (aC (.bl true))) aNext) (tk_is_block_text_1)
theorem len_is_block_text : ∀ ds M Q, sp_is_block_text ds M Q → ds.length = 1 := by
  rintro ds M Q ⟨w, rfl, _⟩
  rfl
theorem spec_is_block_text : ∀ ds M Q, sp_is_block_text ds M Q → t_is_block_text (retD Q) (startA 2 ds) M := by
  rintro ds M Q ⟨w, rfl, cl, wl, k⟩
  have el : w.cps.toList.length = w.length := by simp [Str.length]
  have plw : Pl 9 (.str w) := lay_asc cl
  have pl0 : Pl 9 (.str ("-" : Str)) := lay_stroke
  unfold isB at k
  decreasing_tactic
  by_cases h : w = ("-" : Str)
  · rw [dec_T (congrArg Dv.str h)]
    rw [decide_eq_true h, Bool.true_or] at k
    decreasing_tactic
    exact retEnd k
  rw [dec_F (fun z => h (Dv.str.inj z))]
  rw [decide_eq_false h, Bool.false_or] at k
  decreasing_tactic
  by_cases h0 : 0 < w.length
  · rw [decide_eq_true h0, Bool.true_and] at k
    rw [show decide ((0 : Int) < (w.length : Int)) = true from decide_eq_true (by omega)]
    decreasing_tactic
    by_cases h2 : w.length % 2 = 0
    · rw [decide_eq_true h2, Bool.true_and] at k
      rw [dec_T (show (fun i j => Dv.int (i % j)) (w.length : Int) 2 = Dv.int 0 from congrArg Dv.int (by omega))]
      decreasing_tactic
      refine lcM (fun d => .bl (isFig (sgC d))) (fun _ => trivial) (by simp only [HC.signs, List.length_map]; rw [el]; exact le_line (by omega)) (fun d hd M' N hs q => ?_) ?_
      · obtain ⟨c, hc, rfl⟩ := signs_mem hd
        refine ⟨_, rfl, ?_⟩
        decreasing_tactic
        exact ⟨c, rfl, q⟩
      rw [signs_map (fun c => Dv.bl (isFig c)) w]
      ((conv => whnf); refine ⟨_, acAll_eq, ?_⟩; rw [all_map_id])
      exact retEnd k
    · rw [decide_eq_false h2, Bool.false_and] at k
      rw [dec_F (show ¬ (fun i j => Dv.int (i % j)) (w.length : Int) 2 = Dv.int 0 from fun z => h2 (by have := Dv.int.inj z; omega))]
      decreasing_tactic
      exact retEnd k
  · rw [decide_eq_false h0, Bool.false_and] at k
    rw [show decide ((0 : Int) < (w.length : Int)) = false from decide_eq_false (by omega)]
    decreasing_tactic
    exact retEnd k
theorem ok_is_block_text (T : Tx K mg) : FnA P w K mg base 1 T.f_is_block_text T.d_is_block_text [("word" : Str)] sp_is_block_text :=
  fnA T.F_is_block_text sc_is_block_text len_is_block_text (fun cdv A outer s H E hr => by
    have hu1 := hu_of hr
    have hu64 := hr.units
    exact (ass_cons (as_if (at_eq hu64 (av 0) ae_str) (ass_one (as_ret ae_bl)) ass_nil)
    (ass_one (as_ret (ae_and (ae_gt (ae_callB call_len abc_len (aa_cons (av 0) aa_nil) T.n_len boot_len) ae_int) (ae_and (ae_eq hu64 (ae_mod (ae_callB call_len abc_len (aa_cons (av 0) aa_nil) T.n_len boot_len) ae_int) ae_int) (ae_and1 (ae_callB (cr_all rfl) abc_all (aa_cons (ae_fz (ae_lc (own := [(("sign" : Str), 1)]) (tg := (.nm 1)) (by decide) rfl sc_is_block_text.nd (ai_str (av 0)) (blkOk_by (own := [(("sign" : Str), 1)]) (N := N_is_block_text) (sc := defScope s_is_block_text) (by decide +kernel)) (fun _ _ _ _ _ => (pgt_name 1 sc_is_block_text.nd)) (fun _ _ _ _ _ => ats_nil) (fun _ _ _ _ _ => (ae_inS (av 1) (ae_gstr rfl T.c_FIGURES.choose_spec))))) aa_nil) T.n_all boot_all)))))))) spec_is_block_text
def sp_Draft_put_disk : ASp := fun ds M Q => ∃ M0 p, ∃ dr : Dr, ∃ ws : List Str, ds = [.ref p, .rol (ws.map Dv.str)] ∧ DrAt M0 M p dr ∧ WordsOk ws ∧ dr.disks.length ≤ 100000 ∧ (putD dr ws = none → ∀ M', Sub M0 M' → Q (.bl false) M') ∧ ∀ dr', putD dr ws = some dr' → ∀ M', DrAt M0 M' p dr' → Q (.bl true) M'
def tk_Draft_put_disk_4 : RS := (aRet (aC (.bl true)))
def tk_Draft_put_disk_3 : RS := aSeq (aDrop (aMth "list" amApp (aFld ("Draft" : Str) ("disks" : Str) (aVar 0)) (aCons (aFn acTup (aCons (aFz (aLc (aiSeq (aFz (aSl (aVar 1) (aoS (aC (.int 1))) aoN))) (.nm 2) [2] aYes (aCall sp_block_in (aCons (aVar 2) aNil)))) aNil)) aNil))) (tk_Draft_put_disk_4)
def tk_Draft_put_disk_2 : RS := aSeq (aIfS (aOr (aB (aOp aNe (aOp aIx (aVar 1) (aC (.int 0))) (aC (.str ("disk" : Str))))) (aOr (aB (aOp aLt (aFn acLen (aCons (aVar 1) aNil)) (aC (.int 2)))) (aNot (aTru (aFn acAll (aCons (aFz (aLc (aiSeq (aFz (aSl (aVar 1) (aoS (aC (.int 1))) aoN))) (.nm 2) [2] aYes (aCall sp_is_block_text (aCons (aVar 2) aNil)))) aNil)))))) (aRet (aC (.bl false))) aNext) (tk_Draft_put_disk_3)
def tk_Draft_put_disk_1 : RS := aSeq (aIfS (aB (aOp aEq (aVar 1) (aFz (aLst (aCons (aC (.str ("lost" : Str))) aNil))))) (aSeq (aDrop (aMth "list" amApp (aFld ("Draft" : Str) ("disks" : Str) (aVar 0)) (aCons (aC .non) aNil)))
    (aRet (aC (.bl true)))) aNext) (tk_Draft_put_disk_2)
def t_Draft_put_disk : RS := aSeq (aIfS (aB (aOp aNe (aFld ("Draft" : Str) ("notes" : Str) (aVar 0)) (aFz (aLst aNil)))) (aRet (aC (.bl false))) aNext) (tk_Draft_put_disk_1)
theorem len_Draft_put_disk : ∀ ds M Q, sp_Draft_put_disk ds M Q → ds.length = 2 := by
  rintro ds M Q ⟨M0, p, dr, ws, rfl, _⟩
  rfl
theorem spec_Draft_put_disk : ∀ ds M Q, sp_Draft_put_disk ds M Q → t_Draft_put_disk (retD Q) (startA 3 ds) M := by
  rintro ds M Q ⟨M0, p, dr, ws, rfl, hd, ⟨w0, wa, wl⟩, dl, kn, ky⟩
  obtain ⟨l1, l2, hp, h1, h2, pd, pn, ph⟩ := hd.puts
  have sb := hd.sub
  have e1 := objC_l hp
  have lk := dr_lk (numsV dr.head) l1 l2
  have lw := lay_words
  have pl := words_pl wa
  have plL : Pl 9 (.rol [Dv.str ("lost" : Str)]) := fun d hd => by rw [List.mem_singleton.mp hd]; exact lw.1
  have ww : (ws.map Dv.str).length = ws.length := List.length_map _
  have wpos : 0 < ws.length := by cases ws with | nil => exact absurd rfl w0 | cons _ _ => exact Nat.succ_pos _
  unfold putD at kn ky
  decreasing_tactic
  ((repeat ((conv => whnf); simp only [lenA_r, itemsA_r, lstA_r, lstC_s, Option.map_some, atI_0, ixN_0, mup_same, mup_mup, true_and, and_true, List.map_cons, List.map_nil, List.length_cons, List.length_map, List.length_nil, List.set_cons_zero, List.set_cons_succ, List.cons_append, List.nil_append, List.getElem?_cons_zero, List.getElem?_cons_succ, e1, lk.2.2])); (conv => whnf))
  decreasing_tactic
  refine ⟨_, h2, pl_nts _, (fun d hd => by cases hd), ?_⟩
  by_cases hn : dr.notes = []
  · rw [if_neg (fun z => z hn)] at kn ky
    rw [dec_T (show dr.notes.map ntV = [] by rw [hn]; rfl)]
    decreasing_tactic
    by_cases hl : ws = [("lost" : Str)]
    · rw [if_pos hl] at kn ky
      rw [dec_T (show Dv.rol (ws.map Dv.str) = Dv.rol [Dv.str ("lost" : Str)] by rw [hl]; rfl)]
      decreasing_tactic
      ((repeat ((conv => whnf); simp only [lenA_r, itemsA_r, lstA_r, lstC_s, Option.map_some, atI_0, ixN_0, mup_same, mup_mup, true_and, and_true, List.map_cons, List.map_nil, List.length_cons, List.length_map, List.length_nil, List.set_cons_zero, List.set_cons_succ, List.cons_append, List.nil_append, List.getElem?_cons_zero, List.getElem?_cons_succ, e1, lk.2.1])); (conv => whnf))
      refine ⟨tyM_list h1, ?_⟩
      decreasing_tactic
      have q := pd none
      rw [List.map_append] at q
      exact retEnd (ky _ rfl _ q)
    · rw [if_neg hl] at kn ky
      rw [dec_F (show ¬ Dv.rol (ws.map Dv.str) = Dv.rol [Dv.str ("lost" : Str)] from fun z => hl (map_str_inj (ys := [("lost" : Str)]) (Dv.rol.inj z)))]
      have e0 : atI (ws.map Dv.str) 0 = some (.str (ws.getD 0 ("" : Str))) := words_at wpos
      have p0 : Pl 9 (.str (ws.getD 0 ("" : Str))) := lay_asc (wa _ (words_in wpos)).1
      have pld : Pl 9 (.str ("disk" : Str)) := lw.2.1
      generalize ws.getD 0 ("" : Str) = f at e0 p0 kn ky
      decreasing_tactic
      ((repeat ((conv => whnf); simp only [lenA_r, itemsA_r, lstA_r, lstC_s, Option.map_some, atI_0, ixN_0, mup_same, mup_mup, true_and, and_true, List.map_cons, List.map_nil, List.length_cons, List.length_map, List.length_nil, List.set_cons_zero, List.set_cons_succ, List.cons_append, List.nil_append, List.getElem?_cons_zero, List.getElem?_cons_succ, e0])); (conv => whnf))
      decreasing_tactic
      by_cases c1 : f = ("disk" : Str)
      · rw [dec_T (congrArg Dv.str c1)]
        decreasing_tactic
        by_cases c2 : ws.length < 2
        · rw [if_pos (.inr (.inl c2))] at kn
          decreasing_tactic
          exact retEnd (kn rfl M sb)
        · have ec : cutA (ws.map Dv.str) (some 1) none = (ws.drop 1).map Dv.str := (c_from _ 1 (by rw [ww]; omega)).trans List.map_drop.symm
          have va : ∀ v ∈ ws.drop 1, PySem.W.KSb.Asc v ∧ v.length ≤ 100000 := fun v hv => wa v (List.mem_of_mem_drop hv)
          have vl : (ws.drop 1).length ≤ 100000 := by rw [List.length_drop]; omega
          have em : ((ws.drop 1).map Dv.str).map (fun d => match d with | .str w => Dv.bl (isB w) | _ => .non) = (ws.drop 1).map fun w => Dv.bl (isB w) := by rw [List.map_map]; exact List.map_congr_left fun w _ => rfl
          have em2 : ((ws.drop 1).map Dv.str).map (fun d => match d with | .str w => oD (blkW w) | _ => .non) = ((ws.drop 1).map blkW).map oD := by rw [List.map_map, List.map_map]; exact List.map_congr_left fun w _ => rfl
          decreasing_tactic
          rw [ec]
          generalize hv : ws.drop 1 = vs at ec va vl em em2 kn ky
          refine lcM (fun d => match d with | .str w => Dv.bl (isB w) | _ => .non) (fun _ => rfl) (by rw [List.length_map]; exact le_line (by omega)) (fun d hd M' N hs q => ?_) ?_
          · obtain ⟨w, hw, rfl⟩ := List.mem_map.mp hd
            refine ⟨_, rfl, ?_⟩
            decreasing_tactic
            exact ⟨w, rfl, (va w hw).1, (va w hw).2, q⟩
          rw [em]
          ((conv => whnf); refine ⟨_, acAll_eq, ?_⟩; rw [all_map_id])
          cases hb : vs.all isB with
          | false =>
            rw [if_pos (.inr (.inr hb))] at kn
            decreasing_tactic
            exact retEnd (kn rfl M sb)
          | true =>
            rw [if_neg (fun z => z.elim (fun y => y c1) fun y => y.elim c2 fun x => by rw [hb] at x; cases x)] at ky
            decreasing_tactic
            ((repeat ((conv => whnf); simp only [lenA_r, itemsA_r, lstA_r, lstC_s, Option.map_some, atI_0, ixN_0, mup_same, mup_mup, true_and, and_true, List.map_cons, List.map_nil, List.length_cons, List.length_map, List.length_nil, List.set_cons_zero, List.set_cons_succ, List.cons_append, List.nil_append, List.getElem?_cons_zero, List.getElem?_cons_succ, e1, lk.2.1])); (conv => whnf))
            refine ⟨tyM_list h1, ?_⟩
            decreasing_tactic
            rw [ec]
            refine lcM (fun d => match d with | .str w => oD (blkW w) | _ => .non) (fun _ => rfl) (by rw [List.length_map]; exact le_line (by omega)) (fun d hd M' N hs q => ?_) ?_
            · obtain ⟨w, hw, rfl⟩ := List.mem_map.mp hd
              refine ⟨_, rfl, ?_⟩
              decreasing_tactic
              exact ⟨w, rfl, (va w hw).1, (va w hw).2, List.all_eq_true.mp hb w hw, q⟩
            rw [em2]
            decreasing_tactic
            have q := pd (some (vs.map blkW))
            rw [List.map_append] at q
            exact retEnd (ky _ rfl _ q)
      · rw [if_pos (.inl c1)] at kn
        rw [dec_F (fun z => c1 (Dv.str.inj z))]
        decreasing_tactic
        exact retEnd (kn rfl M sb)
  · rw [if_pos hn] at kn
    rw [dec_F (fun z => hn (List.map_eq_nil_iff.mp z))]
    decreasing_tactic
    exact retEnd (kn rfl M sb)
theorem ok_Draft_put_disk (T : Tx K mg) : FnA P w K mg base 2 T.f_Draft_put_disk T.d_Draft_put_disk [("self" : Str), ("words" : Str)] sp_Draft_put_disk :=
  fnA T.F_Draft_put_disk sc_Draft_put_disk len_Draft_put_disk (fun cdv A outer s H E hr => by
    have hu1 := hu_of hr
    have hu64 := hr.units
    exact (ass_cons (as_if (at_ne hu64 (ae_fld T.kl_Draft T.no_Draft_notes (av 0)) (ae_fz (ae_lst aa_nil))) (ass_one (as_ret ae_bl)) ass_nil)
    (ass_cons (as_if (at_eq hu64 (av 1) (ae_fz (ae_lst (aa_cons ae_str aa_nil)))) (ass_cons (as_expr (ae_append (ae_fld T.kl_Draft T.no_Draft_disks (av 0)) (aa_cons ae_non aa_nil)))
    (ass_one (as_ret ae_bl))) ass_nil)
    (ass_cons (as_if (AW.pt (aw_or (at_ne hu64 (ae_ix hu1 (av 1) ae_int) ae_str) (aw_or (at_lt (ae_callB call_len abc_len (aa_cons (av 1) aa_nil) T.n_len boot_len) ae_int) (aw_or1 (at_not (at_tru (ae_callB (cr_all rfl) abc_all (aa_cons (ae_fz (ae_lc (own := [(("word" : Str), 2)]) (tg := (.nm 2)) (by decide) rfl sc_Draft_put_disk.nd (ai_seq (ae_fz (ae_slice (av 1) (ao_some ae_int) ao_none))) (blkOk_by (own := [(("word" : Str), 2)]) (N := N_Draft_put_disk) (sc := defScope s_Draft_put_disk) (by decide +kernel)) (fun _ _ _ _ _ => (pgt_name 2 sc_Draft_put_disk.nd)) (fun _ _ _ _ _ => ats_nil) (fun _ _ _ _ _ => (ae_call (ok_is_block_text T) (hr.mono (by decide)) T.m_is_block_text T.F_is_block_text.kp T.b_is_block_text (aa_cons (av 2) aa_nil))))) aa_nil) T.n_all boot_all))))))) (ass_one (as_ret ae_bl)) ass_nil)
    (ass_cons (as_expr (ae_append (ae_fld T.kl_Draft T.no_Draft_disks (av 0)) (aa_cons (ae_callTy call_tuple_of abc_tup (aa_cons (ae_fz (ae_lc (own := [(("word" : Str), 2)]) (tg := (.nm 2)) (by decide) rfl sc_Draft_put_disk.nd (ai_seq (ae_fz (ae_slice (av 1) (ao_some ae_int) ao_none))) (blkOk_by (own := [(("word" : Str), 2)]) (N := N_Draft_put_disk) (sc := defScope s_Draft_put_disk) (by decide +kernel)) (fun _ _ _ _ _ => (pgt_name 2 sc_Draft_put_disk.nd)) (fun _ _ _ _ _ => ats_nil) (fun _ _ _ _ _ => (ae_call (ok_block_in T) (hr.mono (by decide)) T.m_block_in T.F_block_in.kp T.b_block_in (aa_cons (av 2) aa_nil))))) aa_nil) T.n_tuple boot_tuple) aa_nil)))
    (ass_one (as_ret ae_bl))))))) spec_Draft_put_disk
def sp_number_in : ASp := fun ds M Q => ∃ w : Str, ds = [.str w] ∧ PySem.W.KSb.Asc w ∧ w.length ≤ 100000 ∧ Q (numV (numW w)) M
def tk_number_in_2 : RS := (aRet (aFn acIntS (aCons (aVar 0) aNil)))
def tk_number_in_1 : RS := aSeq (aIfS (aAnd (aB (aOp aEq (aOp aIx (aVar 0) (aC (.int 0))) (aC (.str ("0" : Str))))) (aB (aOp aNe (aVar 0) (aC (.str ("0" : Str)))))) (aRet (aC .non)) aNext) (tk_number_in_2)
def t_number_in : RS := aSeq (aIfS (aOr (aNot (aB (aChain aLe aLe (aC (.int 1)) (aFn acLen (aCons (aVar 0) aNil)) (aC (.int 12))))) (aNot (aTru (aFn acAll (aCons (aFz (aLc (aiStr (aVar 0)) (.nm 1) [1] aYes (aChain aLeS aLeS (aC (.str ("0" : Str))) (aVar 1) (aC (.str ("9" : Str)))))) aNil))))) (aRet (aC .non)) aNext) (tk_number_in_1)
theorem len_number_in : ∀ ds M Q, sp_number_in ds M Q → ds.length = 1 := by
  rintro ds M Q ⟨w, rfl, _⟩
  rfl
theorem spec_number_in : ∀ ds M Q, sp_number_in ds M Q → t_number_in (retD Q) (startA 2 ds) M := by
  rintro ds M Q ⟨w, rfl, cl, wl, k⟩
  have el : w.cps.toList.length = w.length := by simp [Str.length]
  have plw : Pl 9 (.str w) := lay_asc cl
  have pl0 : Pl 9 (.str ("0" : Str)) := lay_zero
  unfold numW at k
  decreasing_tactic
  by_cases h : 1 ≤ w.length ∧ w.length ≤ 12
  · rw [show decide ((1 : Int) ≤ (w.length : Int)) = true from decide_eq_true (by omega)]
    decreasing_tactic
    refine lcM (fun d => .bl (decide (48 ≤ sgC d ∧ sgC d ≤ 57))) (fun _ => trivial) (by simp only [HC.signs, List.length_map]; rw [el]; exact le_line (by omega)) (fun d hd M' N hs q => ?_) ?_
    · obtain ⟨c, hc, rfl⟩ := signs_mem hd
      refine ⟨_, rfl, ?_⟩
      decreasing_tactic
      rw [sg_lo]
      by_cases c1 : 48 ≤ c
      · rw [decide_eq_true c1]
        decreasing_tactic
        rw [sg_hi]
        have q : N (.bl (decide (48 ≤ c ∧ c ≤ 57))) M' := q
        rw [decide_eq_decide.mpr (show (48 ≤ c ∧ c ≤ 57) ↔ c ≤ 57 from ⟨fun z => z.2, fun z => ⟨c1, z⟩⟩)] at q
        exact q
      · rw [decide_eq_false c1]
        decreasing_tactic
        have q : N (.bl (decide (48 ≤ c ∧ c ≤ 57))) M' := q
        rw [decide_eq_false (fun z => c1 z.1)] at q
        exact q
    rw [signs_map (fun c => Dv.bl (decide (48 ≤ c ∧ c ≤ 57))) w]
    ((conv => whnf); refine ⟨_, acAll_eq, ?_⟩; rw [all_map_id])
    rw [show (w.cps.toList.all fun c => decide (48 ≤ c ∧ c ≤ 57)) = digW w from rfl]
    cases hd : digW w with
    | false =>
      rw [if_neg (fun c => by rw [hd] at c; cases c.2)] at k
      decreasing_tactic
      exact retEnd k
    | true =>
      rw [if_pos ⟨h, hd⟩] at k
      cases q : w.cps.toList with
      | nil => rw [q] at el; have el : 0 = w.length := el; omega
      | cons c cs =>
        have p0 : Pl 9 (.str ⟨#[c]⟩) := lay_asc fun x hx => cl x (by rw [q, List.mem_singleton.mp (show x ∈ [c] from hx)]; exact List.mem_cons_self ..)
        have ea : atI w.cps.toList 0 = some c := by rw [q]; simp [atI_0]
        decreasing_tactic
        ((repeat ((conv => whnf); simp only [lenA_r, itemsA_r, lstA_r, lstC_s, Option.map_some, atI_0, ixN_0, mup_same, mup_mup, true_and, and_true, List.map_cons, List.map_nil, List.length_cons, List.length_map, List.length_nil, List.set_cons_zero, List.set_cons_succ, List.cons_append, List.nil_append, List.getElem?_cons_zero, List.getElem?_cons_succ, ea])); (conv => whnf))
        refine ⟨p0, pl0, ?_⟩
        have it := int_dig hd h.1 h.2
        have g0 : w.cps.toList.getD 0 0 = c := by rw [q]; rfl
        rw [g0] at k
        by_cases c0 : c = 48
        · rw [dec_T (show Dv.str ⟨#[c]⟩ = Dv.str ("0" : Str) by rw [c0]; exact congrArg Dv.str sg_zero)]
          decreasing_tactic
          by_cases w0 : w = ("0" : Str)
          · rw [if_neg (fun z => z.2 w0)] at k
            rw [dec_T (congrArg Dv.str w0)]
            decreasing_tactic
            refine ⟨_, it, by omega, ?_⟩
            decreasing_tactic
            exact retEnd k
          · rw [if_pos ⟨c0, w0⟩] at k
            rw [dec_F (fun z => w0 (Dv.str.inj z))]
            decreasing_tactic
            exact retEnd k
        · rw [if_neg (fun z => c0 z.1)] at k
          rw [dec_F (fun z => c0 (sg_zero_inv (Dv.str.inj z)))]
          decreasing_tactic
          refine ⟨_, it, by omega, ?_⟩
          decreasing_tactic
          exact retEnd k
  · rw [if_neg (fun c => h c.1)] at k
    by_cases h1 : 1 ≤ w.length
    · rw [show decide ((1 : Int) ≤ (w.length : Int)) = true from decide_eq_true (by omega)]
      decreasing_tactic
      exact retEnd k
    · rw [show decide ((1 : Int) ≤ (w.length : Int)) = false from decide_eq_false (by omega)]
      decreasing_tactic
      exact retEnd k
theorem ok_number_in (T : Tx K mg) : FnA P w K mg base 1 T.f_number_in T.d_number_in [("word" : Str)] sp_number_in :=
  fnA T.F_number_in sc_number_in len_number_in (fun cdv A outer s H E hr => by
    have hu1 := hu_of hr
    have hu64 := hr.units
    exact (ass_cons (as_if (AW.pt (aw_or (at_not (at_chain2 op_le op_le ab_B0 ab_B0 ae_int (ae_callB call_len abc_len (aa_cons (av 0) aa_nil) T.n_len boot_len) (ae_gint rfl T.c_MOST_FIGURES.choose_spec))) (aw_or1 (at_not (at_tru (ae_callB (cr_all rfl) abc_all (aa_cons (ae_fz (ae_lc (own := [(("sign" : Str), 1)]) (tg := (.nm 1)) (by decide) rfl sc_number_in.nd (ai_str (av 0)) (blkOk_by (own := [(("sign" : Str), 1)]) (N := N_number_in) (sc := defScope s_number_in) (by decide +kernel)) (fun _ _ _ _ _ => (pgt_name 1 sc_number_in.nd)) (fun _ _ _ _ _ => ats_nil) (fun _ _ _ _ _ => (ae_leS2 ae_str (av 1) ae_str)))) aa_nil) T.n_all boot_all)))))) (ass_one (as_ret ae_non)) ass_nil)
    (ass_cons (as_if (AW.pt (aw_and (at_eq hu64 (ae_ix hu1 (av 0) ae_int) ae_str) (aw_and1 (at_ne hu64 (av 0) ae_str)))) (ass_one (as_ret ae_non)) ass_nil)
    (ass_one (as_ret (ae_callTy call_int_str abc_intS (aa_cons (av 0) aa_nil) T.n_int boot_int)))))) spec_number_in
def sp_numbers_in : ASp := fun ds M Q => ∃ ws : List Str, ∃ many : Nat, ds = [.rol (ws.map Dv.str), dn many] ∧ (∀ w ∈ ws, PySem.W.KSb.Asc w ∧ w.length ≤ 100000) ∧ ws.length ≤ 100000 ∧ Q (numsV (numsW ws many)) M
def tk_numbers_in_2 : RS := (aRet (aFn acTup (aCons (aVar 2) aNil)))
def tk_numbers_in_1 : RS := aSeq (aIfS (aOr (aB (aOp aNe (aFn acLen (aCons (aVar 0) aNil)) (aVar 1))) (aB (aOp aInD (aC .non) (aVar 2)))) (aRet (aC .non)) aNext) (tk_numbers_in_2)
def t_numbers_in : RS := aSeq (aAsg (aFz (aLc (aiSeq (aVar 0)) (.nm 3) [3] aYes (aCall sp_number_in (aCons (aVar 3) aNil)))) (agName 2)) (tk_numbers_in_1)
theorem len_numbers_in : ∀ ds M Q, sp_numbers_in ds M Q → ds.length = 2 := by
  rintro ds M Q ⟨ws, many, rfl, _⟩
  rfl
theorem spec_numbers_in : ∀ ds M Q, sp_numbers_in ds M Q → t_numbers_in (retD Q) (startA 4 ds) M := by
  rintro ds M Q ⟨ws, many, rfl, wa, wl, k⟩
  decreasing_tactic
  refine lcM (fun d => match d with | .str w => numV (numW w) | _ => .non) (fun _ => rfl) (by rw [List.length_map]; exact le_line (by omega)) (fun d hd M' N hs q => ?_) ?_
  · obtain ⟨w, hw, rfl⟩ := List.mem_map.mp hd
    refine ⟨_, rfl, ?_⟩
    decreasing_tactic
    exact ⟨w, rfl, (wa w hw).1, (wa w hw).2, q⟩
  rw [List.map_map]
  have em : (List.map ((fun d => match d with | .str w => numV (numW w) | _ => .non) ∘ Dv.str) ws) = ws.map fun w => numV (numW w) := List.map_congr_left fun w _ => rfl
  rw [em]
  decreasing_tactic
  have el : ((ws.map Dv.str).length : Int) = (ws.length : Int) := by rw [List.length_map]
  unfold numsW at k
  by_cases h : ws.length = many
  · rw [dec_T (show Dv.int ((ws.map Dv.str).length : Int) = dn many by rw [el, h])]
    decreasing_tactic
    refine ⟨fun z hz => ?_, ?_⟩
    · obtain ⟨w, hw, rfl⟩ := List.mem_map.mp hz
      exact pl_numV _
    by_cases hn : none ∈ ws.map numW
    · rw [if_neg (fun z => z.2 hn)] at k
      rw [dec_T (non_mem.mpr hn)]
      decreasing_tactic
      exact retEnd k
    · rw [if_pos ⟨h, hn⟩] at k
      rw [dec_F (fun z => hn (non_mem.mp z)), nums_map hn]
      decreasing_tactic
      exact retEnd k
  · rw [if_neg (fun z => h z.1)] at k
    rw [dec_F (fun z => h (by have := Dv.int.inj z; rw [el] at this; omega))]
    decreasing_tactic
    exact retEnd k
theorem ok_numbers_in (T : Tx K mg) : FnA P w K mg base 2 T.f_numbers_in T.d_numbers_in [("words" : Str), ("many" : Str)] sp_numbers_in :=
  fnA T.F_numbers_in sc_numbers_in len_numbers_in (fun cdv A outer s H E hr => by
    have hu1 := hu_of hr
    have hu64 := hr.units
    exact (ass_cons (as_fzset rfl (as_setLc 2 (own := [(("word" : Str), 3)]) (tg := (.nm 3)) (by decide) rfl sc_numbers_in.nd rfl rfl (sw_true rfl rfl rfl (by decide +kernel)) (ai_seq (av 0)) (blkOk_by (own := [(("word" : Str), 3)]) (N := N_numbers_in) (sc := defScope s_numbers_in) (by decide +kernel)) (fun _ _ _ _ _ => (pgt_name 3 sc_numbers_in.nd)) (fun _ _ _ _ _ => ats_nil) (fun _ _ _ _ _ => (ae_call (ok_number_in T) (hr.mono (by decide)) T.m_number_in T.F_number_in.kp T.b_number_in (aa_cons (av 3) aa_nil)))))
    (ass_cons (as_if (AW.pt (aw_or (at_ne hu64 (ae_callB call_len abc_len (aa_cons (av 0) aa_nil) T.n_len boot_len) (av 1)) (aw_or1 (at_inD (hu65_of hr) ae_non (av 2))))) (ass_one (as_ret ae_non)) ass_nil)
    (ass_one (as_ret (ae_callTy call_tuple_of abc_tup (aa_cons (av 2) aa_nil) T.n_tuple boot_tuple)))))) spec_numbers_in
def sp_Draft_put_head : ASp := fun ds M Q => ∃ M0 p, ∃ dr : Dr, ∃ ws : List Str, ds = [.ref p, .rol (ws.map Dv.str)] ∧ DrAt M0 M p dr ∧ WordsOk ws ∧ (putH dr ws = none → ∀ M', Sub M0 M' → Q (.bl false) M') ∧ ∀ dr', putH dr ws = some dr' → ∀ M', DrAt M0 M' p dr' → Q (.bl true) M'
def tk_Draft_put_head_1 : RS := (aRet (aAndV (aOp aEq (aOp aIx (aVar 1) (aC (.int 0))) (aC (.str ("store" : Str)))) (aOp aIsNot (aFld ("Draft" : Str) ("head" : Str) (aVar 0)) (aC .non))))
def t_Draft_put_head : RS := aSeq (asFld ("Draft" : Str) ("head" : Str) (aVar 0) (aCall sp_numbers_in (aCons (aFz (aSl (aVar 1) (aoS (aC (.int 1))) aoN)) (aCons (aC (.int 6)) aNil)))) (tk_Draft_put_head_1)
theorem len_Draft_put_head : ∀ ds M Q, sp_Draft_put_head ds M Q → ds.length = 2 := by
  rintro ds M Q ⟨M0, p, dr, ws, rfl, _⟩
  rfl
theorem spec_Draft_put_head : ∀ ds M Q, sp_Draft_put_head ds M Q → t_Draft_put_head (retD Q) (startA 2 ds) M := by
  rintro ds M Q ⟨M0, p, dr, ws, rfl, hd, ⟨w0, wa, wl⟩, kn, ky⟩
  obtain ⟨l1, l2, hp, h1, h2, pd, pn, ph⟩ := hd.puts
  have sb := hd.sub
  have lw := lay_words
  have ww : (ws.map Dv.str).length = ws.length := List.length_map _
  have wpos : 0 < ws.length := by cases ws with | nil => exact absurd rfl w0 | cons _ _ => exact Nat.succ_pos _
  have ec : cutA (ws.map Dv.str) (some 1) none = (ws.drop 1).map Dv.str := (c_from _ 1 (by rw [ww]; omega)).trans List.map_drop.symm
  have va : ∀ v ∈ ws.drop 1, PySem.W.KSb.Asc v ∧ v.length ≤ 100000 := fun v hv => wa v (List.mem_of_mem_drop hv)
  have vl : (ws.drop 1).length ≤ 100000 := by rw [List.length_drop]; omega
  have e0 : atI (ws.map Dv.str) 0 = some (.str (ws.getD 0 ("" : Str))) := words_at wpos
  have p0 : Pl 9 (.str (ws.getD 0 ("" : Str))) := lay_asc (wa _ (words_in wpos)).1
  have pls : Pl 9 (.str ("store" : Str)) := lw.2.2.2.2.1
  unfold putH at kn ky
  generalize ws.getD 0 ("" : Str) = f at e0 p0 kn ky
  decreasing_tactic
  rw [ec]
  generalize ws.drop 1 = vs at va vl kn ky ⊢
  refine ⟨vs, 6, rfl, va, vl, ?_⟩
  have e1 := objC_l hp
  ((repeat ((conv => whnf); simp only [lenA_r, itemsA_r, lstA_r, lstC_s, Option.map_some, atI_0, ixN_0, mup_same, mup_mup, true_and, and_true, List.map_cons, List.map_nil, List.length_cons, List.length_map, List.length_nil, List.set_cons_zero, List.set_cons_succ, List.cons_append, List.nil_append, List.getElem?_cons_zero, List.getElem?_cons_succ, e1])); (conv => whnf))
  refine ⟨dr_len _ _ _, ?_⟩
  rw [dr_head1]
  have hq := ph (numsW vs 6)
  have hp2 : mup M p (.obj ("Draft" : Str) (drF (numsV (numsW vs 6)) l1 l2)) p = some (.obj ("Draft" : Str) (drF (numsV (numsW vs 6)) l1 l2)) := mup_same
  generalize mup M p (.obj ("Draft" : Str) (drF (numsV (numsW vs 6)) l1 l2)) = M1 at hq hp2 ⊢
  have e2 := objC_l hp2
  have lk := dr_lk (numsV (numsW vs 6)) l1 l2
  decreasing_tactic
  ((repeat ((conv => whnf); simp only [lenA_r, itemsA_r, lstA_r, lstC_s, Option.map_some, atI_0, ixN_0, mup_same, mup_mup, true_and, and_true, List.map_cons, List.map_nil, List.length_cons, List.length_map, List.length_nil, List.set_cons_zero, List.set_cons_succ, List.cons_append, List.nil_append, List.getElem?_cons_zero, List.getElem?_cons_succ, e0])); (conv => whnf))
  decreasing_tactic
  by_cases c1 : f = ("store" : Str)
  · rw [dec_T (congrArg Dv.str c1)]
    decreasing_tactic
    ((repeat ((conv => whnf); simp only [lenA_r, itemsA_r, lstA_r, lstC_s, Option.map_some, atI_0, ixN_0, mup_same, mup_mup, true_and, and_true, List.map_cons, List.map_nil, List.length_cons, List.length_map, List.length_nil, List.set_cons_zero, List.set_cons_succ, List.cons_append, List.nil_append, List.getElem?_cons_zero, List.getElem?_cons_succ, e2, lk.1])); (conv => whnf))
    decreasing_tactic
    cases hn : numsW vs 6 with
    | none =>
      rw [hn] at kn
      exact retEnd (kn rfl M1 hq.sub)
    | some ns =>
      rw [hn] at ky hq
      exact retEnd (ky _ (if_pos c1) M1 hq)
  · rw [dec_F (fun z => c1 (Dv.str.inj z))]
    decreasing_tactic
    refine retEnd (kn ?_ M1 hq.sub)
    cases numsW vs 6 with
    | none => rfl
    | some ns => exact if_neg c1
theorem ok_Draft_put_head (T : Tx K mg) : FnA P w K mg base 3 T.f_Draft_put_head T.d_Draft_put_head [("self" : Str), ("words" : Str)] sp_Draft_put_head :=
  fnA T.F_Draft_put_head sc_Draft_put_head len_Draft_put_head (fun cdv A outer s H E hr => by
    have hu1 := hu_of hr
    have hu64 := hr.units
    exact (ass_cons (as_fld T.kl_Draft T.no_Draft_head (av 0) (ae_call (ok_numbers_in T) (hr.mono (by decide)) T.m_numbers_in T.F_numbers_in.kp T.b_numbers_in (aa_cons (ae_fz (ae_slice (av 1) (ao_some ae_int) ao_none)) (aa_cons ae_int aa_nil))))
    (ass_one (as_ret (ae_and (ae_eq hu64 (ae_ix hu1 (av 1) ae_int) ae_str) (ae_and1 (ae_isnot (ae_fld T.kl_Draft T.no_Draft_head (av 0)) ae_non))))))) spec_Draft_put_head
def sp_Draft_put_note : ASp := fun ds M Q => ∃ M0 p, ∃ dr : Dr, ∃ ws : List Str, ds = [.ref p, .rol (ws.map Dv.str)] ∧ DrAt M0 M p dr ∧ WordsOk ws ∧ dr.notes.length ≤ 100000 ∧ (putN dr ws = none → ∀ M', Sub M0 M' → Q (.bl false) M') ∧ ∀ dr', putN dr ws = some dr' → ∀ M', DrAt M0 M' p dr' → Q (.bl true) M'
def tk_Draft_put_note_4 : RS := (aRet (aC (.bl true)))
def tk_Draft_put_note_3 : RS := aSeq (aDrop (aMth "list" amApp (aFld ("Draft" : Str) ("notes" : Str) (aVar 0)) (aCons (aOp aAdd (aOp aAdd (aTup (aCons (aC (.str ("block" : Str))) aNil)) (aVar 2)) (aTup (aCons (aCall sp_block_in (aCons (aOp aIx (aVar 1) (aC (.int 3))) aNil)) aNil))) aNil))) (tk_Draft_put_note_4)
def tk_Draft_put_note_2 : RS := aSeq (aIfS (aOr (aB (aOp aNe (aOp aIx (aVar 1) (aC (.int 0))) (aC (.str ("note" : Str))))) (aOr (aB (aOp aNe (aFn acLen (aCons (aVar 1) aNil)) (aC (.int 4)))) (aOr (aB (aOp aIs (aVar 2) (aC .non))) (aNot (aTru (aCall sp_is_block_text (aCons (aOp aIx (aVar 1) (aC (.int 3))) aNil))))))) (aRet (aC (.bl false))) aNext) (tk_Draft_put_note_3)
def tk_Draft_put_note_1 : RS := aSeq (aAsg (aCall sp_numbers_in (aCons (aFz (aSl (aVar 1) (aoS (aC (.int 1))) (aoS (aC (.int 3))))) (aCons (aC (.int 2)) aNil))) (agName 2)) (tk_Draft_put_note_2)
def t_Draft_put_note : RS := aSeq (aIfS (aB (aOp aEq (aOp aIx (aVar 1) (aC (.int 0))) (aC (.str ("end" : Str))))) (aSeq (aAsg (aCall sp_numbers_in (aCons (aFz (aSl (aVar 1) (aoS (aC (.int 1))) aoN)) (aCons (aC (.int 3)) aNil))) (agName 2))
    (aSeq (aIfS (aB (aOp aIs (aVar 2) (aC .non))) (aRet (aC (.bl false))) aNext)
    (aSeq (aDrop (aMth "list" amApp (aFld ("Draft" : Str) ("notes" : Str) (aVar 0)) (aCons (aOp aAdd (aTup (aCons (aC (.str ("end" : Str))) aNil)) (aVar 2)) aNil)))
    (aRet (aC (.bl true)))))) aNext) (tk_Draft_put_note_1)
theorem len_Draft_put_note : ∀ ds M Q, sp_Draft_put_note ds M Q → ds.length = 2 := by
  rintro ds M Q ⟨M0, p, dr, ws, rfl, _⟩
  rfl
theorem spec_Draft_put_note : ∀ ds M Q, sp_Draft_put_note ds M Q → t_Draft_put_note (retD Q) (startA 3 ds) M := by
  rintro ds M Q ⟨M0, p, dr, ws, rfl, hd, ⟨w0, wa, wl⟩, nl, kn, ky⟩
  obtain ⟨l1, l2, hp, h1, h2, pd, pn, ph⟩ := hd.puts
  have sb := hd.sub
  have e1 := objC_l hp
  have lk := dr_lk (numsV dr.head) l1 l2
  have lw := lay_words
  have ww : (ws.map Dv.str).length = ws.length := List.length_map _
  have wpos : 0 < ws.length := by cases ws with | nil => exact absurd rfl w0 | cons _ _ => exact Nat.succ_pos _
  have ec : cutA (ws.map Dv.str) (some 1) none = (ws.drop 1).map Dv.str := (c_from _ 1 (by rw [ww]; omega)).trans List.map_drop.symm
  have ec2 : cutA (ws.map Dv.str) (some 1) (some 3) = ((ws.drop 1).take 2).map Dv.str := by
    rw [List.map_take, List.map_drop]
    exact cut_nat _ 1 3 (by decide)
  have va : ∀ v ∈ ws.drop 1, PySem.W.KSb.Asc v ∧ v.length ≤ 100000 := fun v hv => wa v (List.mem_of_mem_drop hv)
  have vl : (ws.drop 1).length ≤ 100000 := by rw [List.length_drop]; omega
  have e0 : atI (ws.map Dv.str) 0 = some (.str (ws.getD 0 ("" : Str))) := words_at wpos
  have p0 : Pl 9 (.str (ws.getD 0 ("" : Str))) := lay_asc (wa _ (words_in wpos)).1
  have ple : Pl 9 (.str ("end" : Str)) := lw.2.2.1
  have pln : Pl 9 (.str ("note" : Str)) := lw.2.2.2.1
  unfold putN at kn ky
  decreasing_tactic
  ((repeat ((conv => whnf); simp only [lenA_r, itemsA_r, lstA_r, lstC_s, Option.map_some, atI_0, ixN_0, mup_same, mup_mup, true_and, and_true, List.map_cons, List.map_nil, List.length_cons, List.length_map, List.length_nil, List.set_cons_zero, List.set_cons_succ, List.cons_append, List.nil_append, List.getElem?_cons_zero, List.getElem?_cons_succ, e0])); (conv => whnf))
  decreasing_tactic
  by_cases c1 : ws.getD 0 ("" : Str) = ("end" : Str)
  · rw [if_pos c1] at kn ky
    rw [dec_T (congrArg Dv.str c1)]
    decreasing_tactic
    rw [ec]
    refine ⟨ws.drop 1, 3, rfl, va, vl, ?_⟩
    cases hn : numsW (ws.drop 1) 3 with
    | none =>
      rw [hn] at kn
      decreasing_tactic
      exact retEnd (kn rfl M sb)
    | some ns =>
      have n3 := (nums_len hn).1
      have n4 : (ns.map fun n => dn n).length = ns.length := List.length_map _
      rw [hn] at ky
      decreasing_tactic
      ((repeat ((conv => whnf); simp only [lenA_r, itemsA_r, lstA_r, lstC_s, Option.map_some, atI_0, ixN_0, mup_same, mup_mup, true_and, and_true, List.map_cons, List.map_nil, List.length_cons, List.length_map, List.length_nil, List.set_cons_zero, List.set_cons_succ, List.cons_append, List.nil_append, List.getElem?_cons_zero, List.getElem?_cons_succ, e1, lk.2.2])); (conv => whnf))
      refine ⟨tyM_list h2, ?_⟩
      decreasing_tactic
      have q := pn (.fin ns)
      rw [List.map_append] at q
      exact retEnd (ky _ rfl _ q)
  · rw [if_neg c1] at kn ky
    rw [dec_F (fun z => c1 (Dv.str.inj z))]
    decreasing_tactic
    rw [ec2]
    have va2 : ∀ v ∈ (ws.drop 1).take 2, PySem.W.KSb.Asc v ∧ v.length ≤ 100000 := fun v hv => va v (List.mem_of_mem_take hv)
    refine ⟨(ws.drop 1).take 2, 2, rfl, va2, by rw [List.length_take]; omega, ?_⟩
    decreasing_tactic
    ((repeat ((conv => whnf); simp only [lenA_r, itemsA_r, lstA_r, lstC_s, Option.map_some, atI_0, ixN_0, mup_same, mup_mup, true_and, and_true, List.map_cons, List.map_nil, List.length_cons, List.length_map, List.length_nil, List.set_cons_zero, List.set_cons_succ, List.cons_append, List.nil_append, List.getElem?_cons_zero, List.getElem?_cons_succ, e0])); (conv => whnf))
    decreasing_tactic
    by_cases c2 : ws.getD 0 ("" : Str) = ("note" : Str)
    · rw [dec_T (congrArg Dv.str c2)]
      decreasing_tactic
      rw [ww]
      by_cases c3 : ws.length = 4
      · rw [dec_T (show Dv.int (ws.length : Int) = Dv.int 4 from congrArg Dv.int (by omega))]
        decreasing_tactic
        have e3 : atI (ws.map Dv.str) 3 = some (.str (ws.getD 3 ("" : Str))) := words_at (ws := ws) (i := 3) (by omega)
        have a3 := wa _ (words_in (ws := ws) (i := 3) (by omega))
        generalize ws.getD 3 ("" : Str) = g at e3 a3 kn ky
        rw [numsV_non]
        cases hn : numsW ((ws.drop 1).take 2) 2 with
        | none =>
          rw [hn] at kn
          decreasing_tactic
          exact retEnd (kn rfl M sb)
        | some ns =>
          have n3 := (nums_len hn).1
          have n4 : (ns.map fun n => dn n).length = ns.length := List.length_map _
          rw [hn] at kn ky
          decreasing_tactic
          ((repeat ((conv => whnf); simp only [lenA_r, itemsA_r, lstA_r, lstC_s, Option.map_some, atI_0, ixN_0, mup_same, mup_mup, true_and, and_true, List.map_cons, List.map_nil, List.length_cons, List.length_map, List.length_nil, List.set_cons_zero, List.set_cons_succ, List.cons_append, List.nil_append, List.getElem?_cons_zero, List.getElem?_cons_succ, e3])); (conv => whnf))
          refine ⟨g, rfl, a3.1, a3.2, ?_⟩
          cases hb : isB g with
          | false =>
            have kn := kn (if_pos (.inr (.inr hb)))
            decreasing_tactic
            exact retEnd (kn M sb)
          | true =>
            have ky := ky _ (if_neg (fun z => z.elim (fun y => y c2) fun y => y.elim (fun x => x c3) fun x => by rw [hb] at x; cases x))
            decreasing_tactic
            ((repeat ((conv => whnf); simp only [lenA_r, itemsA_r, lstA_r, lstC_s, Option.map_some, atI_0, ixN_0, mup_same, mup_mup, true_and, and_true, List.map_cons, List.map_nil, List.length_cons, List.length_map, List.length_nil, List.set_cons_zero, List.set_cons_succ, List.cons_append, List.nil_append, List.getElem?_cons_zero, List.getElem?_cons_succ, e1, lk.2.2])); (conv => whnf))
            refine ⟨tyM_list h2, ?_⟩
            decreasing_tactic
            ((repeat ((conv => whnf); simp only [lenA_r, itemsA_r, lstA_r, lstC_s, Option.map_some, atI_0, ixN_0, mup_same, mup_mup, true_and, and_true, List.map_cons, List.map_nil, List.length_cons, List.length_map, List.length_nil, List.set_cons_zero, List.set_cons_succ, List.cons_append, List.nil_append, List.getElem?_cons_zero, List.getElem?_cons_succ, e3])); (conv => whnf))
            refine ⟨g, rfl, a3.1, a3.2, hb, ?_⟩
            decreasing_tactic
            have q := pn (.blk ns (blkW g))
            rw [List.map_append] at q
            exact retEnd (ky _ q)
      · have kn := kn (by
          cases numsW ((ws.drop 1).take 2) 2 with
          | none => rfl
          | some ns => exact if_pos (.inr (.inl c3)))
        rw [dec_F (show ¬ Dv.int (ws.length : Int) = Dv.int 4 from fun z => c3 (by have := Dv.int.inj z; omega))]
        decreasing_tactic
        exact retEnd (kn M sb)
    · have kn := kn (by
        cases numsW ((ws.drop 1).take 2) 2 with
        | none => rfl
        | some ns => exact if_pos (.inl c2))
      rw [dec_F (fun z => c2 (Dv.str.inj z))]
      decreasing_tactic
      exact retEnd (kn M sb)
theorem ok_Draft_put_note (T : Tx K mg) : FnA P w K mg base 3 T.f_Draft_put_note T.d_Draft_put_note [("self" : Str), ("words" : Str)] sp_Draft_put_note :=
  fnA T.F_Draft_put_note sc_Draft_put_note len_Draft_put_note (fun cdv A outer s H E hr => by
    have hu1 := hu_of hr
    have hu64 := hr.units
    exact (ass_cons (as_if (at_eq hu64 (ae_ix hu1 (av 1) ae_int) ae_str) (ass_cons (as_set 2 sc_Draft_put_note.nd (ae_call (ok_numbers_in T) (hr.mono (by decide)) T.m_numbers_in T.F_numbers_in.kp T.b_numbers_in (aa_cons (ae_fz (ae_slice (av 1) (ao_some ae_int) ao_none)) (aa_cons ae_int aa_nil))))
    (ass_cons (as_if (at_is (av 2) ae_non) (ass_one (as_ret ae_bl)) ass_nil)
    (ass_cons (as_expr (ae_append (ae_fld T.kl_Draft T.no_Draft_notes (av 0)) (aa_cons (ae_add (ae_tup (aa_cons ae_str aa_nil)) (av 2)) aa_nil)))
    (ass_one (as_ret ae_bl))))) ass_nil)
    (ass_cons (as_set 2 sc_Draft_put_note.nd (ae_call (ok_numbers_in T) (hr.mono (by decide)) T.m_numbers_in T.F_numbers_in.kp T.b_numbers_in (aa_cons (ae_fz (ae_slice (av 1) (ao_some ae_int) (ao_some ae_int))) (aa_cons ae_int aa_nil))))
    (ass_cons (as_if (AW.pt (aw_or (at_ne hu64 (ae_ix hu1 (av 1) ae_int) ae_str) (aw_or (at_ne hu64 (ae_callB call_len abc_len (aa_cons (av 1) aa_nil) T.n_len boot_len) ae_int) (aw_or (at_is (av 2) ae_non) (aw_or1 (at_not (at_tru (ae_call (ok_is_block_text T) (hr.mono (by decide)) T.m_is_block_text T.F_is_block_text.kp T.b_is_block_text (aa_cons (ae_ix hu1 (av 1) ae_int) aa_nil))))))))) (ass_one (as_ret ae_bl)) ass_nil)
    (ass_cons (as_expr (ae_append (ae_fld T.kl_Draft T.no_Draft_notes (av 0)) (aa_cons (ae_add (ae_add (ae_tup (aa_cons ae_str aa_nil)) (av 2)) (ae_tup (aa_cons (ae_call (ok_block_in T) (hr.mono (by decide)) T.m_block_in T.F_block_in.kp T.b_block_in (aa_cons (ae_ix hu1 (av 1) ae_int) aa_nil)) aa_nil))) aa_nil)))
    (ass_one (as_ret ae_bl))))))) spec_Draft_put_note
def sp_Draft_put : ASp := fun ds M Q => ∃ M0 p, ∃ dr : Dr, ∃ row : Str, ds = [.ref p, .str row] ∧ DrAt M0 M p dr ∧ PySem.W.KSb.Asc row ∧ row.length ≤ 50000 ∧ dr.disks.length ≤ 100000 ∧ dr.notes.length ≤ 100000 ∧ (putR dr row = none → ∀ M', Sub M0 M' → Q (.bl false) M') ∧ ∀ dr', putR dr row = some dr' → ∀ M', DrAt M0 M' p dr' → Q (.bl true) M'
def tk_Draft_put_3 : RS := (aRet (aMeth ("Draft" : Str) ("put_note" : Str) sp_Draft_put_note (aVar 0) (aCons (aVar 2) aNil)))
def tk_Draft_put_2 : RS := aSeq (aIfS (aB (aOp aInK (aOp aIx (aVar 2) (aC (.int 0))) (aTup (aCons (aC (.str ("disk" : Str))) (aCons (aC (.str ("lost" : Str))) aNil))))) (aRet (aMeth ("Draft" : Str) ("put_disk" : Str) sp_Draft_put_disk (aVar 0) (aCons (aVar 2) aNil))) aNext) (tk_Draft_put_3)
def tk_Draft_put_1 : RS := aSeq (aIfS (aB (aOp aIs (aFld ("Draft" : Str) ("head" : Str) (aVar 0)) (aC .non))) (aRet (aMeth ("Draft" : Str) ("put_head" : Str) sp_Draft_put_head (aVar 0) (aCons (aVar 2) aNil))) aNext) (tk_Draft_put_2)
def t_Draft_put : RS := aSeq (aAsg (aFz (aMth "str" amSplit (aVar 1) (aCons (aC (.str (" " : Str))) aNil))) (agName 2)) (tk_Draft_put_1)
theorem len_Draft_put : ∀ ds M Q, sp_Draft_put ds M Q → ds.length = 2 := by
  rintro ds M Q ⟨M0, p, dr, row, rfl, _⟩
  rfl
theorem mem2 (a b c : Str) : memK (Sum.inr a) [Sum.inr b, Sum.inr c] = decide (a = b ∨ a = c) := by
  unfold memK
  by_cases h : a = b
  · subst h
    simp
  · by_cases h2 : a = c
    · subst h2
      simp
    · simp [h, h2, Ne.symm h, Ne.symm h2]
theorem spec_Draft_put : ∀ ds M Q, sp_Draft_put ds M Q → t_Draft_put (retD Q) (startA 3 ds) M := by
  rintro ds M Q ⟨M0, p, dr, row, rfl, hd, ra, rl, dl, nl, kn, ky⟩
  obtain ⟨l1, l2, hp, h1, h2, pd, pn, ph⟩ := hd.puts
  have e1 := objC_l hp
  have lk := dr_lk (numsV dr.head) l1 l2
  have no := dr_no (numsV dr.head) l1 l2
  have lw := lay_words
  obtain ⟨b1, b2, _, _, b3, _⟩ := tl_blank
  have wo := split_words b1 b2 ra rl
  unfold putR at kn ky
  decreasing_tactic
  refine ⟨rfl, ?_⟩
  decreasing_tactic
  generalize Txt.split row (" " : Str) = ws at wo kn ky ⊢
  have wpos : 0 < ws.length := by cases hw : ws with | nil => exact absurd hw wo.1 | cons _ _ => exact Nat.succ_pos _
  have e0 : atI (ws.map Dv.str) 0 = some (.str (ws.getD 0 ("" : Str))) := words_at wpos
  ((repeat ((conv => whnf); simp only [lenA_r, itemsA_r, lstA_r, lstC_s, Option.map_some, atI_0, ixN_0, mup_same, mup_mup, true_and, and_true, List.map_cons, List.map_nil, List.length_cons, List.length_map, List.length_nil, List.set_cons_zero, List.set_cons_succ, List.cons_append, List.nil_append, List.getElem?_cons_zero, List.getElem?_cons_succ, e1, lk.1])); (conv => whnf))
  rw [numsV_non]
  by_cases hh : dr.head = none
  · rw [if_pos hh] at kn ky
    rw [show dr.head.isNone = true by rw [hh]; rfl]
    decreasing_tactic
    ((repeat ((conv => whnf); simp only [lenA_r, itemsA_r, lstA_r, lstC_s, Option.map_some, atI_0, ixN_0, mup_same, mup_mup, true_and, and_true, List.map_cons, List.map_nil, List.length_cons, List.length_map, List.length_nil, List.set_cons_zero, List.set_cons_succ, List.cons_append, List.nil_append, List.getElem?_cons_zero, List.getElem?_cons_succ, e1])); (conv => whnf))
    refine ⟨no.2.2.1, ?_⟩
    decreasing_tactic
    exact ⟨M0, p, dr, ws, rfl, hd, wo, fun z M' s => retEnd (kn z M' s), fun d z M' s => retEnd (ky d z M' s)⟩
  · rw [if_neg hh] at kn ky
    rw [show dr.head.isNone = false by cases hq : dr.head with | none => exact absurd hq hh | some _ => rfl]
    decreasing_tactic
    ((repeat ((conv => whnf); simp only [lenA_r, itemsA_r, lstA_r, lstC_s, Option.map_some, atI_0, ixN_0, mup_same, mup_mup, true_and, and_true, List.map_cons, List.map_nil, List.length_cons, List.length_map, List.length_nil, List.set_cons_zero, List.set_cons_succ, List.cons_append, List.nil_append, List.getElem?_cons_zero, List.getElem?_cons_succ, e0])); (conv => whnf))
    decreasing_tactic
    have em : memK (Sum.inr (ws.getD 0 ("" : Str))) [Sum.inr ("disk" : Str), Sum.inr ("lost" : Str)] = decide (ws.getD 0 ("" : Str) = ("disk" : Str) ∨ ws.getD 0 ("" : Str) = ("lost" : Str)) := mem2 _ _ _
    (dsimp only)
    rw [em]
    by_cases c : ws.getD 0 ("" : Str) = ("disk" : Str) ∨ ws.getD 0 ("" : Str) = ("lost" : Str)
    · rw [if_pos c] at kn ky
      rw [decide_eq_true c]
      decreasing_tactic
      ((repeat ((conv => whnf); simp only [lenA_r, itemsA_r, lstA_r, lstC_s, Option.map_some, atI_0, ixN_0, mup_same, mup_mup, true_and, and_true, List.map_cons, List.map_nil, List.length_cons, List.length_map, List.length_nil, List.set_cons_zero, List.set_cons_succ, List.cons_append, List.nil_append, List.getElem?_cons_zero, List.getElem?_cons_succ, e1])); (conv => whnf))
      refine ⟨no.1, ?_⟩
      decreasing_tactic
      exact ⟨M0, p, dr, ws, rfl, hd, wo, dl, fun z M' s => retEnd (kn z M' s), fun d z M' s => retEnd (ky d z M' s)⟩
    · rw [if_neg c] at kn ky
      rw [decide_eq_false c]
      decreasing_tactic
      ((repeat ((conv => whnf); simp only [lenA_r, itemsA_r, lstA_r, lstC_s, Option.map_some, atI_0, ixN_0, mup_same, mup_mup, true_and, and_true, List.map_cons, List.map_nil, List.length_cons, List.length_map, List.length_nil, List.set_cons_zero, List.set_cons_succ, List.cons_append, List.nil_append, List.getElem?_cons_zero, List.getElem?_cons_succ, e1])); (conv => whnf))
      refine ⟨no.2.1, ?_⟩
      decreasing_tactic
      exact ⟨M0, p, dr, ws, rfl, hd, wo, nl, fun z M' s => retEnd (kn z M' s), fun d z M' s => retEnd (ky d z M' s)⟩
theorem ok_Draft_put (T : Tx K mg) : FnA P w K mg base 4 T.f_Draft_put T.d_Draft_put [("self" : Str), ("row" : Str)] sp_Draft_put :=
  fnA T.F_Draft_put sc_Draft_put len_Draft_put (fun cdv A outer s H E hr => by
    have hu1 := hu_of hr
    have hu64 := hr.units
    exact (ass_cons (as_set 2 sc_Draft_put.nd (ae_fz (ae_split (av 1) (aa_cons ae_str aa_nil))))
    (ass_cons (as_if (at_is (ae_fld T.kl_Draft T.no_Draft_head (av 0)) ae_non) (ass_one (as_ret (ae_meth T.kl_Draft T.me_Draft_put_head (ok_Draft_put_head T) (hr.mono (by decide)) T.b_Draft_put_head (av 0) (aa_cons (av 2) aa_nil)))) ass_nil)
    (ass_cons (as_if (at_inK hu1 (ae_ix hu1 (av 2) ae_int) (ae_tup (aa_cons ae_str (aa_cons ae_str aa_nil)))) (ass_one (as_ret (ae_meth T.kl_Draft T.me_Draft_put_disk (ok_Draft_put_disk T) (hr.mono (by decide)) T.b_Draft_put_disk (av 0) (aa_cons (av 2) aa_nil)))) ass_nil)
    (ass_one (as_ret (ae_meth T.kl_Draft T.me_Draft_put_note (ok_Draft_put_note T) (hr.mono (by decide)) T.b_Draft_put_note (av 0) (aa_cons (av 2) aa_nil)))))))) spec_Draft_put
def sp_Draft_whole : ASp := fun ds M Q => ∃ M0 p, ∃ dr : Dr, ds = [.ref p] ∧ DrAt M0 M p dr ∧ Q (.tup [numsV dr.head, .tup (dr.disks.map kD), .tup (dr.notes.map ntV)]) M
def t_Draft_whole : RS := (aRet (aTup (aCons (aFld ("Draft" : Str) ("head" : Str) (aVar 0)) (aCons (aFn acTup (aCons (aFld ("Draft" : Str) ("disks" : Str) (aVar 0)) aNil)) (aCons (aFn acTup (aCons (aFld ("Draft" : Str) ("notes" : Str) (aVar 0)) aNil)) aNil)))))
theorem len_Draft_whole : ∀ ds M Q, sp_Draft_whole ds M Q → ds.length = 1 := by
  rintro ds M Q ⟨M0, p, dr, rfl, _⟩
  rfl
theorem spec_Draft_whole : ∀ ds M Q, sp_Draft_whole ds M Q → t_Draft_whole (retD Q) (startA 1 ds) M := by
  rintro ds M Q ⟨M0, p, dr, rfl, hd, k⟩
  obtain ⟨l1, l2, hp, h1, h2, pd, pn, ph⟩ := hd.puts
  have e1 := objC_l hp
  have lk := dr_lk (numsV dr.head) l1 l2
  decreasing_tactic
  ((repeat ((conv => whnf); simp only [lenA_r, itemsA_r, lstA_r, lstC_s, Option.map_some, atI_0, ixN_0, mup_same, mup_mup, true_and, and_true, List.map_cons, List.map_nil, List.length_cons, List.length_map, List.length_nil, List.set_cons_zero, List.set_cons_succ, List.cons_append, List.nil_append, List.getElem?_cons_zero, List.getElem?_cons_succ, e1, lk.1])); (conv => whnf))
  ((repeat ((conv => whnf); simp only [lenA_r, itemsA_r, lstA_r, lstC_s, Option.map_some, atI_0, ixN_0, mup_same, mup_mup, true_and, and_true, List.map_cons, List.map_nil, List.length_cons, List.length_map, List.length_nil, List.set_cons_zero, List.set_cons_succ, List.cons_append, List.nil_append, List.getElem?_cons_zero, List.getElem?_cons_succ, e1, lk.2.1])); (conv => whnf))
  ((repeat ((conv => whnf); simp only [lenA_r, itemsA_r, lstA_r, lstC_s, Option.map_some, atI_0, ixN_0, mup_same, mup_mup, true_and, and_true, List.map_cons, List.map_nil, List.length_cons, List.length_map, List.length_nil, List.set_cons_zero, List.set_cons_succ, List.cons_append, List.nil_append, List.getElem?_cons_zero, List.getElem?_cons_succ, h1])); (conv => whnf))
  decreasing_tactic
  ((repeat ((conv => whnf); simp only [lenA_r, itemsA_r, lstA_r, lstC_s, Option.map_some, atI_0, ixN_0, mup_same, mup_mup, true_and, and_true, List.map_cons, List.map_nil, List.length_cons, List.length_map, List.length_nil, List.set_cons_zero, List.set_cons_succ, List.cons_append, List.nil_append, List.getElem?_cons_zero, List.getElem?_cons_succ, e1, lk.2.2])); (conv => whnf))
  ((repeat ((conv => whnf); simp only [lenA_r, itemsA_r, lstA_r, lstC_s, Option.map_some, atI_0, ixN_0, mup_same, mup_mup, true_and, and_true, List.map_cons, List.map_nil, List.length_cons, List.length_map, List.length_nil, List.set_cons_zero, List.set_cons_succ, List.cons_append, List.nil_append, List.getElem?_cons_zero, List.getElem?_cons_succ, h2])); (conv => whnf))
  decreasing_tactic
  exact retEnd k
theorem ok_Draft_whole (T : Tx K mg) : FnA P w K mg base 1 T.f_Draft_whole T.d_Draft_whole [("self" : Str)] sp_Draft_whole :=
  fnA T.F_Draft_whole sc_Draft_whole len_Draft_whole (fun cdv A outer s H E hr => by
    have hu1 := hu_of hr
    have hu64 := hr.units
    exact (ass_one (as_ret (ae_tup (aa_cons (ae_fld T.kl_Draft T.no_Draft_head (av 0)) (aa_cons (ae_callTy call_tuple_of abc_tup (aa_cons (ae_fld T.kl_Draft T.no_Draft_disks (av 0)) aa_nil) T.n_tuple boot_tuple) (aa_cons (ae_callTy call_tuple_of abc_tup (aa_cons (ae_fld T.kl_Draft T.no_Draft_notes (av 0)) aa_nil) T.n_tuple boot_tuple) aa_nil))))))) spec_Draft_whole
def sp_is_whole : ASp := fun ds M Q => ∃ d n, ds = [d] ∧ Pn n d ∧ Q (.bl (wholeB d)) M
def t_is_whole : RS := (aRet (aAndV (aFn acIsi (aCons (aVar 0) (aCons (aC (.ty "int")) aNil))) (aNotV (aFn acIsi (aCons (aVar 0) (aCons (aC (.ty "bool")) aNil))))))
theorem len_is_whole : ∀ ds M Q, sp_is_whole ds M Q → ds.length = 1 := by
  rintro ds M Q ⟨d, n, rfl, _⟩
  rfl
theorem spec_is_whole : ∀ ds M Q, sp_is_whole ds M Q → t_is_whole (retD Q) (startA 1 ds) M := by
  rintro ds M Q ⟨d, n, rfl, h, k⟩
  cases d <;> first | (cases n <;> exact h.elim) | (decreasing_tactic; exact retEnd k)
theorem ok_is_whole (T : Tx K mg) : FnA P w K mg base 1 T.f_is_whole T.d_is_whole [("thing" : Str)] sp_is_whole :=
  fnA T.F_is_whole sc_is_whole len_is_whole (fun cdv A outer s H E hr => by
    have hu1 := hu_of hr
    have hu64 := hr.units
    exact (ass_one (as_ret (ae_and (ae_callB call_isi abc_isi (aa_cons (av 0) (aa_cons (ae_gty rfl T.n_int boot_int) aa_nil)) T.n_isinstance boot_isinstance) (ae_and1 (ae_not (ae_callB call_isi abc_isi (aa_cons (av 0) (aa_cons (ae_gty rfl T.n_bool boot_bool) aa_nil)) T.n_isinstance boot_isinstance))))))) spec_is_whole
def sp_is_between : ASp := fun ds M Q => ∃ d n, ∃ lo hi : Int, ds = [d, .int lo, .int hi] ∧ Pn n d ∧ Q (.bl (betwB d lo hi)) M
def t_is_between : RS := (aRet (aAndV (aCall sp_is_whole (aCons (aVar 0) aNil)) (aChain aLe aLe (aVar 1) (aVar 0) (aVar 2))))
theorem len_is_between : ∀ ds M Q, sp_is_between ds M Q → ds.length = 3 := by
  rintro ds M Q ⟨d, n, lo, hi, rfl, _⟩
  rfl
theorem spec_is_between : ∀ ds M Q, sp_is_between ds M Q → t_is_between (retD Q) (startA 3 ds) M := by
  rintro ds M Q ⟨d, n, lo, hi, rfl, h, k⟩
  decreasing_tactic
  refine ⟨d, n, rfl, h, ?_⟩
  cases d <;> first | (cases n <;> exact h.elim) | (exact retEnd k) | skip
  (conv => whnf)
  simp only [betwB] at k
  refine onIf_dec (fun h1 => ?_) (fun h1 => ?_)
  · rw [decide_eq_true h1, Bool.true_and] at k
    exact retEnd k
  · rw [decide_eq_false h1, Bool.false_and] at k
    exact retEnd k
theorem ok_is_between (T : Tx K mg) : FnA P w K mg base 2 T.f_is_between T.d_is_between [("thing" : Str), ("low" : Str), ("high" : Str)] sp_is_between :=
  fnA T.F_is_between sc_is_between len_is_between (fun cdv A outer s H E hr => by
    have hu1 := hu_of hr
    have hu64 := hr.units
    exact (ass_one (as_ret (ae_and (ae_call (ok_is_whole T) (hr.mono (by decide)) T.m_is_whole T.F_is_whole.kp T.b_is_whole (aa_cons (av 0) aa_nil)) (ae_and1 (ae_chain2 op_le op_le ab_B0 ab_B0 (av 1) (av 0) (av 2))))))) spec_is_between
def sp_is_block : ASp := fun ds M Q => ∃ d n, ∃ size : Int, ds = [d, .int size] ∧ Pn n d ∧ Q (.bl (blockB d size)) M
def tk_is_block_1 : RS := (aRet (aFn acAll (aCons (aFz (aLc (aiSeq (aVar 0)) (.nm 2) [2] aYes (aCall sp_is_between (aCons (aVar 2) (aCons (aC (.int 0)) (aCons (aC (.int 255)) aNil)))))) aNil)))
def t_is_block : RS := aSeq (aIfS (aOr (aNot (aTru (aFn acIsi (aCons (aVar 0) (aCons (aC (.ty "tuple")) aNil))))) (aB (aOp aNe (aFn acLen (aCons (aVar 0) aNil)) (aVar 1)))) (aRet (aC (.bl false))) aNext) (tk_is_block_1)
theorem len_is_block : ∀ ds M Q, sp_is_block ds M Q → ds.length = 2 := by
  rintro ds M Q ⟨d, n, size, rfl, _⟩
  rfl
theorem spec_is_block : ∀ ds M Q, sp_is_block ds M Q → t_is_block (retD Q) (startA 3 ds) M := by
  rintro ds M Q ⟨d, n, size, rfl, h, k⟩
  cases d <;> first | (cases n <;> exact h.elim) | (decreasing_tactic; exact retEnd k) | skip
  case tup xs =>
  decreasing_tactic
  simp only [blockB] at k
  refine onIf_ndec (fun h1 => ?_) (fun h1 => ?_)
  · have h2 : ¬ (xs.length : Int) = size := fun e => h1 (by rw [e])
    rw [decide_eq_false h2, Bool.false_and] at k
    exact retEnd k
  · have h2 : (xs.length : Int) = size := Dv.int.inj h1
    rw [decide_eq_true h2, Bool.true_and] at k
    cases n with
    | zero => exact h.elim
    | succ n =>
    decreasing_tactic
    refine lcM (fun x => .bl (betwB x 0 255)) (fun _ => rfl) h.1 (fun d hd M' N hs q => ⟨_, rfl, d, n, 0, 255, rfl, h.2 d hd, q⟩) ?_
    exact acAll_map (retEnd k)
theorem ok_is_block (T : Tx K mg) : FnA P w K mg base 3 T.f_is_block T.d_is_block [("thing" : Str), ("size" : Str)] sp_is_block :=
  fnA T.F_is_block sc_is_block len_is_block (fun cdv A outer s H E hr => by
    have hu1 := hu_of hr
    have hu64 := hr.units
    exact (ass_cons (as_if (AW.pt (aw_or (at_not (at_tru (ae_callB call_isi abc_isi (aa_cons (av 0) (aa_cons (ae_gty rfl T.n_tuple boot_tuple) aa_nil)) T.n_isinstance boot_isinstance))) (aw_or1 (at_ne hu64 (ae_callB call_len abc_len (aa_cons (av 0) aa_nil) T.n_len boot_len) (av 1))))) (ass_one (as_ret ae_bl)) ass_nil)
    (ass_one (as_ret (ae_callB (cr_all rfl) abc_all (aa_cons (ae_fz (ae_lc (own := [(("one" : Str), 2)]) (tg := (.nm 2)) (by decide) rfl sc_is_block.nd (ai_seq (av 0)) (blkOk_by (own := [(("one" : Str), 2)]) (N := N_is_block) (sc := defScope s_is_block) (by decide +kernel)) (fun _ _ _ _ _ => (pgt_name 2 sc_is_block.nd)) (fun _ _ _ _ _ => ats_nil) (fun _ _ _ _ _ => (ae_call (ok_is_between T) (hr.mono (by decide)) T.m_is_between T.F_is_between.kp T.b_is_between (aa_cons (av 2) (aa_cons ae_int (aa_cons (ae_gint rfl T.c_MOST_BYTE.choose_spec) aa_nil))))))) aa_nil) T.n_all boot_all))))) spec_is_block
def sp_is_disk : ASp := fun ds M Q => ∃ d n, ∃ size rows : Int, ds = [d, .int size, .int rows] ∧ Pn n d ∧ Q (.bl (diskB d size rows)) M
def tk_is_disk_2 : RS := (aRet (aFn acAll (aCons (aFz (aLc (aiSeq (aVar 0)) (.nm 3) [3] aYes (aOrV (aOp aIs (aVar 3) (aC .non)) (aCall sp_is_block (aCons (aVar 3) (aCons (aVar 1) aNil)))))) aNil)))
def tk_is_disk_1 : RS := aSeq (aIfS (aOr (aNot (aTru (aFn acIsi (aCons (aVar 0) (aCons (aC (.ty "tuple")) aNil))))) (aB (aOp aNe (aFn acLen (aCons (aVar 0) aNil)) (aVar 2)))) (aRet (aC (.bl false))) aNext) (tk_is_disk_2)
def t_is_disk : RS := aSeq (aIfS (aB (aOp aIs (aVar 0) (aC .non))) (aRet (aC (.bl true))) aNext) (tk_is_disk_1)
theorem len_is_disk : ∀ ds M Q, sp_is_disk ds M Q → ds.length = 3 := by
  rintro ds M Q ⟨d, n, size, rows, rfl, _⟩
  rfl
theorem spec_is_disk : ∀ ds M Q, sp_is_disk ds M Q → t_is_disk (retD Q) (startA 4 ds) M := by
  rintro ds M Q ⟨d, n, size, rows, rfl, h, k⟩
  cases d <;> first | (cases n <;> exact h.elim) | (decreasing_tactic; exact retEnd k) | skip
  case tup xs =>
  decreasing_tactic
  simp only [diskB] at k
  refine onIf_ndec (fun h1 => ?_) (fun h1 => ?_)
  · have h2 : ¬ (xs.length : Int) = rows := fun e => h1 (by rw [e])
    rw [decide_eq_false h2, Bool.false_and] at k
    exact retEnd k
  · have h2 : (xs.length : Int) = rows := Dv.int.inj h1
    rw [decide_eq_true h2, Bool.true_and] at k
    cases n with
    | zero => exact h.elim
    | succ n =>
    decreasing_tactic
    refine lcM (fun x => .bl (isNon x || blockB x size)) (fun _ => rfl) h.1 (fun d hd M' N hs q => ⟨_, rfl, ?_⟩) ?_
    · (conv => whnf)
      cases e : isNon d with
      | true =>
        rw [e, Bool.true_or] at q
        exact q
      | false =>
        rw [e, Bool.false_or] at q
        exact ⟨d, n, size, rfl, h.2 d hd, q⟩
    · exact acAll_map (retEnd k)
theorem ok_is_disk (T : Tx K mg) : FnA P w K mg base 4 T.f_is_disk T.d_is_disk [("thing" : Str), ("size" : Str), ("rows" : Str)] sp_is_disk :=
  fnA T.F_is_disk sc_is_disk len_is_disk (fun cdv A outer s H E hr => by
    have hu1 := hu_of hr
    have hu64 := hr.units
    exact (ass_cons (as_if (at_is (av 0) ae_non) (ass_one (as_ret ae_bl)) ass_nil)
    (ass_cons (as_if (AW.pt (aw_or (at_not (at_tru (ae_callB call_isi abc_isi (aa_cons (av 0) (aa_cons (ae_gty rfl T.n_tuple boot_tuple) aa_nil)) T.n_isinstance boot_isinstance))) (aw_or1 (at_ne hu64 (ae_callB call_len abc_len (aa_cons (av 0) aa_nil) T.n_len boot_len) (av 2))))) (ass_one (as_ret ae_bl)) ass_nil)
    (ass_one (as_ret (ae_callB (cr_all rfl) abc_all (aa_cons (ae_fz (ae_lc (own := [(("one" : Str), 3)]) (tg := (.nm 3)) (by decide) rfl sc_is_disk.nd (ai_seq (av 0)) (blkOk_by (own := [(("one" : Str), 3)]) (N := N_is_disk) (sc := defScope s_is_disk) (by decide +kernel)) (fun _ _ _ _ _ => (pgt_name 3 sc_is_disk.nd)) (fun _ _ _ _ _ => ats_nil) (fun _ _ _ _ _ => (ae_or (ae_is (av 3) ae_non) (ae_or1 (ae_call (ok_is_block T) (hr.mono (by decide)) T.m_is_block T.F_is_block.kp T.b_is_block (aa_cons (av 3) (aa_cons (av 1) aa_nil)))))))) aa_nil) T.n_all boot_all)))))) spec_is_disk
def sp_are_widths : ASp := fun ds M Q => ∃ w m n, ∃ par rows many : Int, ∃ s a b c, ds = [w, m, .tup [.int par, s, .int rows, a, b, c], .int many] ∧ Pn n w ∧ Pn n m ∧ Q (.bl (widthsB w m par rows many)) M
def tk_are_widths_3 : RS := (aRet (aAndV (aOp aEq (aVar 3) (aOp aAdd (aVar 0) (aC (.int 1)))) (aAndV (aOp aLe (aVar 3) (aC (.int 10))) (aChain aLe aLt (aC (.int 0)) (aVar 1) (aVar 5)))))
def tk_are_widths_2 : RS := aSeq (aIfS (aB (aOp aEq (aVar 3) (aVar 0))) (aRet (aOp aEq (aVar 1) (aC (.int 0)))) aNext) (tk_are_widths_3)
def tk_are_widths_1 : RS := aSeq (aIfS (aOr (aNot (aTru (aCall sp_is_between (aCons (aVar 0) (aCons (aOp aAdd (aVar 4) (aC (.int 1))) (aCons (aC (.int 10)) aNil)))))) (aNot (aTru (aCall sp_is_whole (aCons (aVar 1) aNil))))) (aRet (aC (.bl false))) aNext) (tk_are_widths_2)
def t_are_widths : RS := aSeq (aPar 4 5 (aCons (aOp aIx (aVar 2) (aC (.int 0))) (aCons (aOp aIx (aVar 2) (aC (.int 2))) aNil))) (tk_are_widths_1)
theorem len_are_widths : ∀ ds M Q, sp_are_widths ds M Q → ds.length = 4 := by
  rintro ds M Q ⟨w, m, n, par, rows, many, s, a, b, c, rfl, _⟩
  rfl
theorem spec_are_widths : ∀ ds M Q, sp_are_widths ds M Q → t_are_widths (retD Q) (startA 6 ds) M := by
  rintro ds M Q ⟨w, m, n, par, rows, many, s, a, b, c, rfl, hw, hm, k⟩
  have i0 : atI [Dv.int par, s, .int rows, a, b, c] 0 = some (.int par) := rfl
  have i2 : atI [Dv.int par, s, .int rows, a, b, c] 2 = some (.int rows) := rfl
  ((repeat ((conv => whnf); simp only [lenA_r, itemsA_r, lstA_r, lstC_s, Option.map_some, atI_0, ixN_0, mup_same, mup_mup, true_and, and_true, List.map_cons, List.map_nil, List.length_cons, List.length_map, List.length_nil, List.set_cons_zero, List.set_cons_succ, List.cons_append, List.nil_append, List.getElem?_cons_zero, List.getElem?_cons_succ, i0, i2])); (conv => whnf))
  refine ⟨w, n, par + 1, 10, rfl, hw, ?_⟩
  cases w <;> first | (exact retEnd k) | (cases m <;> exact retEnd k) | skip
  case int w =>
  cases e1 : betwB (.int w) (par + 1) 10 with
  | false =>
    simp only [betwB] at e1
    have k' : Q (.bl false) M := by
      cases m <;> first | exact k | skip
      simp only [widthsB, e1, Bool.false_and] at k
      exact k
    exact retEnd k'
  | true =>
    (conv => whnf)
    refine ⟨m, n, rfl, hm, ?_⟩
    cases m <;> first | (cases n <;> exact hm.elim) | (exact retEnd k) | skip
    case int m =>
    simp only [betwB] at e1
    simp only [widthsB, e1, Bool.true_and] at k
    decreasing_tactic
    refine onIf_dec (fun h1 => ?_) (fun h1 => ?_)
    · have h2 : many = w := Dv.int.inj h1
      rw [if_pos h2] at k
      decreasing_tactic
      rw [HC.dec_int]
      exact retEnd k
    · have h2 : ¬ many = w := fun e => h1 (by rw [e])
      rw [if_neg h2] at k
      decreasing_tactic
      rw [HC.dec_int]
      by_cases c1 : many = w + 1
      · rw [decide_eq_true c1, Bool.true_and] at k
        rw [decide_eq_true c1]
        (conv => whnf)
        by_cases c2 : many ≤ 10
        · rw [decide_eq_true c2, Bool.true_and] at k
          refine onIf_decT c2 ?_
          (conv => whnf)
          by_cases c3 : 0 ≤ m
          · rw [decide_eq_true c3, Bool.true_and] at k
            refine onIf_decT c3 ?_
            exact retEnd k
          · rw [decide_eq_false c3, Bool.false_and] at k
            refine onIf_decF c3 ?_
            exact retEnd k
        · rw [decide_eq_false c2, Bool.false_and] at k
          refine onIf_decF c2 ?_
          exact retEnd k
      · rw [decide_eq_false c1, Bool.false_and] at k
        rw [decide_eq_false c1]
        exact retEnd k
theorem ok_are_widths (T : Tx K mg) : FnA P w K mg base 3 T.f_are_widths T.d_are_widths [("width" : Str), ("moved" : Str), ("head" : Str), ("many" : Str)] sp_are_widths :=
  fnA T.F_are_widths sc_are_widths len_are_widths (fun cdv A outer s H E hr => by
    have hu1 := hu_of hr
    have hu64 := hr.units
    exact (ass_cons (as_par 4 5 rfl sc_are_widths.nd (aa_cons (ae_ix hu1 (av 2) ae_int) (aa_cons (ae_ix hu1 (av 2) ae_int) aa_nil)))
    (ass_cons (as_if (AW.pt (aw_or (at_not (at_tru (ae_call (ok_is_between T) (hr.mono (by decide)) T.m_is_between T.F_is_between.kp T.b_is_between (aa_cons (av 0) (aa_cons (ae_add (av 4) ae_int) (aa_cons (ae_gint rfl T.c_MOST_DISKS.choose_spec) aa_nil)))))) (aw_or1 (at_not (at_tru (ae_call (ok_is_whole T) (hr.mono (by decide)) T.m_is_whole T.F_is_whole.kp T.b_is_whole (aa_cons (av 1) aa_nil))))))) (ass_one (as_ret ae_bl)) ass_nil)
    (ass_cons (as_if (at_eq hu64 (av 3) (av 0)) (ass_one (as_ret (ae_eq hu64 (av 1) ae_int))) ass_nil)
    (ass_one (as_ret (ae_and (ae_eq hu64 (av 3) (ae_add (av 0) ae_int)) (ae_and (ae_le (av 3) (ae_gint rfl T.c_MOST_DISKS.choose_spec)) (ae_and1 (ae_chain2 op_le op_lt ab_B0 ab_B0 ae_int (av 1) (av 5))))))))))) spec_are_widths
def sp_is_head : ASp := fun ds M Q => ∃ d n, ∃ many : Int, ds = [d, .int many] ∧ Pn (n + 1) d ∧ Q (.bl (headB d many)) M
def tk_is_head_3 : RS := (aRet (aCall sp_are_widths (aCons (aOp aIx (aVar 0) (aC (.int 3))) (aCons (aOp aIx (aVar 0) (aC (.int 4))) (aCons (aVar 0) (aCons (aVar 1) aNil))))))
def tk_is_head_2 : RS := aSeq (aIfS (aOr (aNot (aTru (aCall sp_is_between (aCons (aOp aIx (aVar 0) (aC (.int 2))) (aCons (aC (.int 1)) (aCons (aC (.int 24)) aNil)))))) (aOr (aNot (aTru (aCall sp_is_whole (aCons (aOp aIx (aVar 0) (aC (.int 5))) aNil)))) (aB (aOp aLt (aOp aIx (aVar 0) (aC (.int 5))) (aC (.int 0)))))) (aRet (aC (.bl false))) aNext) (tk_is_head_3)
def tk_is_head_1 : RS := aSeq (aIfS (aOr (aNot (aTru (aCall sp_is_between (aCons (aOp aIx (aVar 0) (aC (.int 0))) (aCons (aC (.int 1)) (aCons (aC (.int 2)) aNil)))))) (aNot (aTru (aCall sp_is_between (aCons (aOp aIx (aVar 0) (aC (.int 1))) (aCons (aC (.int 1)) (aCons (aC (.int 16)) aNil))))))) (aRet (aC (.bl false))) aNext) (tk_is_head_2)
def t_is_head : RS := aSeq (aIfS (aOr (aNot (aTru (aFn acIsi (aCons (aVar 0) (aCons (aC (.ty "tuple")) aNil))))) (aB (aOp aNe (aFn acLen (aCons (aVar 0) aNil)) (aC (.int 6))))) (aRet (aC (.bl false))) aNext) (tk_is_head_1)
theorem len_is_head : ∀ ds M Q, sp_is_head ds M Q → ds.length = 2 := by
  rintro ds M Q ⟨d, n, many, rfl, _⟩
  rfl
theorem spec_is_head : ∀ ds M Q, sp_is_head ds M Q → t_is_head (retD Q) (startA 2 ds) M := by
  rintro ds M Q ⟨d, n, many, rfl, h, k⟩
  cases d <;> first | exact h.elim | (decreasing_tactic; exact retEnd k) | skip
  case tup xs =>
  by_cases hl : xs.length = 6
  case neg =>
    rw [headB_len hl] at k
    decreasing_tactic
    exact retEnd k
  match xs, hl with
  | [a, b, c, w, m, f], hl6 =>
  obtain ⟨hlen, h⟩ := h
  have ha := h a (by simp)
  have hb := h b (by simp)
  have hc := h c (by simp)
  have hw := h w (by simp)
  have hm := h m (by simp)
  have hf := h f (by simp)
  have i0 : atI [a, b, c, w, m, f] 0 = some a := rfl
  have i1 : atI [a, b, c, w, m, f] 1 = some b := rfl
  have i2 : atI [a, b, c, w, m, f] 2 = some c := rfl
  have i3 : atI [a, b, c, w, m, f] 3 = some w := rfl
  have i4 : atI [a, b, c, w, m, f] 4 = some m := rfl
  have i5 : atI [a, b, c, w, m, f] 5 = some f := rfl
  simp only [headB] at k
  decreasing_tactic
  ((repeat ((conv => whnf); simp only [lenA_r, itemsA_r, lstA_r, lstC_s, Option.map_some, atI_0, ixN_0, mup_same, mup_mup, true_and, and_true, List.map_cons, List.map_nil, List.length_cons, List.length_map, List.length_nil, List.set_cons_zero, List.set_cons_succ, List.cons_append, List.nil_append, List.getElem?_cons_zero, List.getElem?_cons_succ, i0])); (conv => whnf))
  refine ⟨a, n, 1, 2, rfl, ha, ?_⟩
  cases e1 : betwB a 1 2 with
  | false => rw [e1, Bool.false_and] at k; exact retEnd k
  | true =>
  rw [e1, Bool.true_and] at k
  ((repeat ((conv => whnf); simp only [lenA_r, itemsA_r, lstA_r, lstC_s, Option.map_some, atI_0, ixN_0, mup_same, mup_mup, true_and, and_true, List.map_cons, List.map_nil, List.length_cons, List.length_map, List.length_nil, List.set_cons_zero, List.set_cons_succ, List.cons_append, List.nil_append, List.getElem?_cons_zero, List.getElem?_cons_succ, i1])); (conv => whnf))
  refine ⟨b, n, 1, 16, rfl, hb, ?_⟩
  cases e2 : betwB b 1 16 with
  | false => rw [e2, Bool.false_and] at k; exact retEnd k
  | true =>
  rw [e2, Bool.true_and] at k
  ((repeat ((conv => whnf); simp only [lenA_r, itemsA_r, lstA_r, lstC_s, Option.map_some, atI_0, ixN_0, mup_same, mup_mup, true_and, and_true, List.map_cons, List.map_nil, List.length_cons, List.length_map, List.length_nil, List.set_cons_zero, List.set_cons_succ, List.cons_append, List.nil_append, List.getElem?_cons_zero, List.getElem?_cons_succ, i2])); (conv => whnf))
  refine ⟨c, n, 1, 24, rfl, hc, ?_⟩
  cases e3 : betwB c 1 24 with
  | false => rw [e3, Bool.false_and] at k; exact retEnd k
  | true =>
  rw [e3, Bool.true_and] at k
  obtain ⟨p, rfl, _, _⟩ := betwB_int e1
  obtain ⟨s, rfl, _, _⟩ := betwB_int e2
  obtain ⟨r, rfl, _, _⟩ := betwB_int e3
  ((repeat ((conv => whnf); simp only [lenA_r, itemsA_r, lstA_r, lstC_s, Option.map_some, atI_0, ixN_0, mup_same, mup_mup, true_and, and_true, List.map_cons, List.map_nil, List.length_cons, List.length_map, List.length_nil, List.set_cons_zero, List.set_cons_succ, List.cons_append, List.nil_append, List.getElem?_cons_zero, List.getElem?_cons_succ, i5])); (conv => whnf))
  refine ⟨f, n, rfl, hf, ?_⟩
  cases f <;> first | (cases n <;> exact hf.elim) | exact retEnd k | skip
  case int f =>
  ((repeat ((conv => whnf); simp only [lenA_r, itemsA_r, lstA_r, lstC_s, Option.map_some, atI_0, ixN_0, mup_same, mup_mup, true_and, and_true, List.map_cons, List.map_nil, List.length_cons, List.length_map, List.length_nil, List.set_cons_zero, List.set_cons_succ, List.cons_append, List.nil_append, List.getElem?_cons_zero, List.getElem?_cons_succ, i5])); (conv => whnf))
  simp only [natB] at k
  by_cases h0 : 0 ≤ f
  · rw [decide_eq_true h0, Bool.true_and] at k
    decreasing_tactic
    ((repeat ((conv => whnf); simp only [lenA_r, itemsA_r, lstA_r, lstC_s, Option.map_some, atI_0, ixN_0, mup_same, mup_mup, true_and, and_true, List.map_cons, List.map_nil, List.length_cons, List.length_map, List.length_nil, List.set_cons_zero, List.set_cons_succ, List.cons_append, List.nil_append, List.getElem?_cons_zero, List.getElem?_cons_succ, i3, i4])); (conv => whnf))
    exact ⟨w, m, n, p, r, many, .int s, w, m, .int f, rfl, hw, hm, retEnd k⟩
  · rw [decide_eq_false h0, Bool.false_and] at k
    decreasing_tactic
    exact retEnd k
theorem ok_is_head (T : Tx K mg) : FnA P w K mg base 4 T.f_is_head T.d_is_head [("thing" : Str), ("many" : Str)] sp_is_head :=
  fnA T.F_is_head sc_is_head len_is_head (fun cdv A outer s H E hr => by
    have hu1 := hu_of hr
    have hu64 := hr.units
    exact (ass_cons (as_if (AW.pt (aw_or (at_not (at_tru (ae_callB call_isi abc_isi (aa_cons (av 0) (aa_cons (ae_gty rfl T.n_tuple boot_tuple) aa_nil)) T.n_isinstance boot_isinstance))) (aw_or1 (at_ne hu64 (ae_callB call_len abc_len (aa_cons (av 0) aa_nil) T.n_len boot_len) ae_int)))) (ass_one (as_ret ae_bl)) ass_nil)
    (ass_cons (as_if (AW.pt (aw_or (at_not (at_tru (ae_call (ok_is_between T) (hr.mono (by decide)) T.m_is_between T.F_is_between.kp T.b_is_between (aa_cons (ae_ix hu1 (av 0) ae_int) (aa_cons ae_int (aa_cons ae_int aa_nil)))))) (aw_or1 (at_not (at_tru (ae_call (ok_is_between T) (hr.mono (by decide)) T.m_is_between T.F_is_between.kp T.b_is_between (aa_cons (ae_ix hu1 (av 0) ae_int) (aa_cons ae_int (aa_cons (ae_gint rfl T.c_MOST_SIZE.choose_spec) aa_nil))))))))) (ass_one (as_ret ae_bl)) ass_nil)
    (ass_cons (as_if (AW.pt (aw_or (at_not (at_tru (ae_call (ok_is_between T) (hr.mono (by decide)) T.m_is_between T.F_is_between.kp T.b_is_between (aa_cons (ae_ix hu1 (av 0) ae_int) (aa_cons ae_int (aa_cons (ae_gint rfl T.c_MOST_ROWS.choose_spec) aa_nil)))))) (aw_or (at_not (at_tru (ae_call (ok_is_whole T) (hr.mono (by decide)) T.m_is_whole T.F_is_whole.kp T.b_is_whole (aa_cons (ae_ix hu1 (av 0) ae_int) aa_nil)))) (aw_or1 (at_lt (ae_ix hu1 (av 0) ae_int) ae_int))))) (ass_one (as_ret ae_bl)) ass_nil)
    (ass_one (as_ret (ae_call (ok_are_widths T) (hr.mono (by decide)) T.m_are_widths T.F_are_widths.kp T.b_are_widths (aa_cons (ae_ix hu1 (av 0) ae_int) (aa_cons (ae_ix hu1 (av 0) ae_int) (aa_cons (av 0) (aa_cons (av 1) aa_nil))))))))))) spec_is_head
def sp_is_note : ASp := fun ds M Q => ∃ d n, ∃ at' par size rows many : Int, ∃ a b c, ds = [d, .int at', .tup [.int par, .int size, .int rows, a, b, c], .int many] ∧ Pn (n + 1) d ∧ Q (.bl (noteB d at' par size rows many)) M
def tk_is_note_3 : RS := (aRet (aAndV (aCall sp_is_between (aCons (aOp aIx (aVar 0) (aC (.int 2))) (aCons (aC (.int 0)) (aCons (aOp aSub (aOp aIx (aVar 2) (aC (.int 2))) (aC (.int 1))) aNil)))) (aCall sp_is_block (aCons (aOp aIx (aVar 0) (aC (.int 3))) (aCons (aOp aIx (aVar 2) (aC (.int 1))) aNil)))))
def tk_is_note_2 : RS := aSeq (aIfS (aOr (aB (aOp aNe (aOp aIx (aVar 0) (aC (.int 0))) (aC (.str ("block" : Str))))) (aNot (aTru (aCall sp_is_between (aCons (aOp aIx (aVar 0) (aC (.int 1))) (aCons (aC (.int 0)) (aCons (aOp aSub (aVar 3) (aC (.int 1))) aNil))))))) (aRet (aC (.bl false))) aNext) (tk_is_note_3)
def tk_is_note_1 : RS := aSeq (aIfS (aB (aOp aEq (aOp aIx (aVar 0) (aC (.int 0))) (aC (.str ("end" : Str))))) (aRet (aAndV (aCall sp_is_whole (aCons (aOp aIx (aVar 0) (aC (.int 1))) aNil)) (aAndV (aOp aEq (aOp aIx (aVar 0) (aC (.int 1))) (aVar 1)) (aCall sp_are_widths (aCons (aOp aIx (aVar 0) (aC (.int 2))) (aCons (aOp aIx (aVar 0) (aC (.int 3))) (aCons (aVar 2) (aCons (aVar 3) aNil)))))))) aNext) (tk_is_note_2)
def t_is_note : RS := aSeq (aIfS (aOr (aNot (aTru (aFn acIsi (aCons (aVar 0) (aCons (aC (.ty "tuple")) aNil))))) (aOr (aB (aOp aNe (aFn acLen (aCons (aVar 0) aNil)) (aC (.int 4)))) (aNot (aTru (aFn acIsi (aCons (aOp aIx (aVar 0) (aC (.int 0))) (aCons (aC (.ty "str")) aNil))))))) (aRet (aC (.bl false))) aNext) (tk_is_note_1)
theorem len_is_note : ∀ ds M Q, sp_is_note ds M Q → ds.length = 4 := by
  rintro ds M Q ⟨d, n, at', par, size, rows, many, a, b, c, rfl, _⟩
  rfl
theorem spec_is_note : ∀ ds M Q, sp_is_note ds M Q → t_is_note (retD Q) (startA 4 ds) M := by
  rintro ds M Q ⟨d, n, at', par, size, rows, many, u, v, w, rfl, h, k⟩
  cases d <;> first | exact h.elim | (decreasing_tactic; exact retEnd k) | skip
  case tup xs =>
  by_cases hl : xs.length = 4
  case neg =>
    rw [noteB_len hl] at k
    decreasing_tactic
    exact retEnd k
  match xs, hl with
  | [x, a, b, c], hl6 =>
  obtain ⟨hlen, h⟩ := h
  have hx := h x (by simp)
  have ha := h a (by simp)
  have hb := h b (by simp)
  have hc := h c (by simp)
  have i0 : atI [x, a, b, c] 0 = some x := rfl
  have i1 : atI [x, a, b, c] 1 = some a := rfl
  have i2 : atI [x, a, b, c] 2 = some b := rfl
  have i3 : atI [x, a, b, c] 3 = some c := rfl
  have j1 : atI [Dv.int par, .int size, .int rows, u, v, w] 1 = some (.int size) := rfl
  have j2 : atI [Dv.int par, .int size, .int rows, u, v, w] 2 = some (.int rows) := rfl
  decreasing_tactic
  ((repeat ((conv => whnf); simp only [lenA_r, itemsA_r, lstA_r, lstC_s, Option.map_some, atI_0, ixN_0, mup_same, mup_mup, true_and, and_true, List.map_cons, List.map_nil, List.length_cons, List.length_map, List.length_nil, List.set_cons_zero, List.set_cons_succ, List.cons_append, List.nil_append, List.getElem?_cons_zero, List.getElem?_cons_succ, i0])); (conv => whnf))
  by_cases hs : ∃ y, x = .str y
  case neg =>
    have hs' : ∀ y, x ≠ .str y := fun y e => hs ⟨y, e⟩
    rw [noteB_str hs'] at k
    cases x <;> first | (cases n <;> exact hx.elim) | exact absurd rfl (hs' _) | (decreasing_tactic; exact retEnd k)
  obtain ⟨y, rfl⟩ := hs
  have py : Pl 9 (.str y) := by cases n <;> exact hx
  have pe : Pl 9 (.str ("end" : Str)) := by show PyData.canLay0 (.str _) = true; decide +kernel
  have pb : Pl 9 (.str ("block" : Str)) := by show PyData.canLay0 (.str _) = true; decide +kernel
  simp only [noteB] at k
  decreasing_tactic
  ((repeat ((conv => whnf); simp only [lenA_r, itemsA_r, lstA_r, lstC_s, Option.map_some, atI_0, ixN_0, mup_same, mup_mup, true_and, and_true, List.map_cons, List.map_nil, List.length_cons, List.length_map, List.length_nil, List.set_cons_zero, List.set_cons_succ, List.cons_append, List.nil_append, List.getElem?_cons_zero, List.getElem?_cons_succ, i0])); (conv => whnf))
  refine onIf_dec (fun h1 => ?_) (fun h1 => ?_)
  · have h2 : y = ("end" : Str) := Dv.str.inj h1
    rw [if_pos h2] at k
    ((repeat ((conv => whnf); simp only [lenA_r, itemsA_r, lstA_r, lstC_s, Option.map_some, atI_0, ixN_0, mup_same, mup_mup, true_and, and_true, List.map_cons, List.map_nil, List.length_cons, List.length_map, List.length_nil, List.set_cons_zero, List.set_cons_succ, List.cons_append, List.nil_append, List.getElem?_cons_zero, List.getElem?_cons_succ, i1])); (conv => whnf))
    refine ⟨a, n, rfl, ha, ?_⟩
    cases a <;> first | (cases n <;> exact ha.elim) | exact retEnd k | skip
    case int a =>
    simp only [] at k
    ((repeat ((conv => whnf); simp only [lenA_r, itemsA_r, lstA_r, lstC_s, Option.map_some, atI_0, ixN_0, mup_same, mup_mup, true_and, and_true, List.map_cons, List.map_nil, List.length_cons, List.length_map, List.length_nil, List.set_cons_zero, List.set_cons_succ, List.cons_append, List.nil_append, List.getElem?_cons_zero, List.getElem?_cons_succ, i1])); (conv => whnf))
    try refine ⟨trivial, trivial, ?_⟩
    rw [HC.dec_int]
    by_cases h3 : a = at'
    · rw [decide_eq_true h3, Bool.true_and] at k
      rw [decide_eq_true h3]
      ((repeat ((conv => whnf); simp only [lenA_r, itemsA_r, lstA_r, lstC_s, Option.map_some, atI_0, ixN_0, mup_same, mup_mup, true_and, and_true, List.map_cons, List.map_nil, List.length_cons, List.length_map, List.length_nil, List.set_cons_zero, List.set_cons_succ, List.cons_append, List.nil_append, List.getElem?_cons_zero, List.getElem?_cons_succ, i2, i3])); (conv => whnf))
      exact ⟨b, c, n, par, rows, many, .int size, u, v, w, rfl, hb, hc, retEnd k⟩
    · rw [decide_eq_false h3, Bool.false_and] at k
      rw [decide_eq_false h3]
      exact retEnd k
  · have h2 : ¬ y = ("end" : Str) := fun e => h1 (by rw [e])
    rw [if_neg h2] at k
    ((repeat ((conv => whnf); simp only [lenA_r, itemsA_r, lstA_r, lstC_s, Option.map_some, atI_0, ixN_0, mup_same, mup_mup, true_and, and_true, List.map_cons, List.map_nil, List.length_cons, List.length_map, List.length_nil, List.set_cons_zero, List.set_cons_succ, List.cons_append, List.nil_append, List.getElem?_cons_zero, List.getElem?_cons_succ, i0])); (conv => whnf))
    try refine ⟨py, pb, ?_⟩
    refine onIf_ndec (fun h3 => ?_) (fun h3 => ?_)
    · have h4 : ¬ y = ("block" : Str) := fun e => h3 (by rw [e])
      rw [if_neg h4] at k
      exact retEnd k
    · have h4 : y = ("block" : Str) := Dv.str.inj h3
      rw [if_pos h4] at k
      ((repeat ((conv => whnf); simp only [lenA_r, itemsA_r, lstA_r, lstC_s, Option.map_some, atI_0, ixN_0, mup_same, mup_mup, true_and, and_true, List.map_cons, List.map_nil, List.length_cons, List.length_map, List.length_nil, List.set_cons_zero, List.set_cons_succ, List.cons_append, List.nil_append, List.getElem?_cons_zero, List.getElem?_cons_succ, i1])); (conv => whnf))
      refine ⟨a, n, 0, many - 1, rfl, ha, ?_⟩
      cases e1 : betwB a 0 (many - 1) with
      | false => rw [e1, Bool.false_and] at k; exact retEnd k
      | true =>
      rw [e1, Bool.true_and] at k
      ((repeat ((conv => whnf); simp only [lenA_r, itemsA_r, lstA_r, lstC_s, Option.map_some, atI_0, ixN_0, mup_same, mup_mup, true_and, and_true, List.map_cons, List.map_nil, List.length_cons, List.length_map, List.length_nil, List.set_cons_zero, List.set_cons_succ, List.cons_append, List.nil_append, List.getElem?_cons_zero, List.getElem?_cons_succ, i2, j2])); (conv => whnf))
      refine ⟨b, n, 0, rows - 1, rfl, hb, ?_⟩
      cases e2 : betwB b 0 (rows - 1) with
      | false => rw [e2, Bool.false_and] at k; exact retEnd k
      | true =>
      rw [e2, Bool.true_and] at k
      ((repeat ((conv => whnf); simp only [lenA_r, itemsA_r, lstA_r, lstC_s, Option.map_some, atI_0, ixN_0, mup_same, mup_mup, true_and, and_true, List.map_cons, List.map_nil, List.length_cons, List.length_map, List.length_nil, List.set_cons_zero, List.set_cons_succ, List.cons_append, List.nil_append, List.getElem?_cons_zero, List.getElem?_cons_succ, i3, j1])); (conv => whnf))
      exact ⟨c, n, size, rfl, hc, retEnd k⟩
theorem ok_is_note (T : Tx K mg) : FnA P w K mg base 4 T.f_is_note T.d_is_note [("thing" : Str), ("at" : Str), ("head" : Str), ("many" : Str)] sp_is_note :=
  fnA T.F_is_note sc_is_note len_is_note (fun cdv A outer s H E hr => by
    have hu1 := hu_of hr
    have hu64 := hr.units
    exact (ass_cons (as_if (AW.pt (aw_or (at_not (at_tru (ae_callB call_isi abc_isi (aa_cons (av 0) (aa_cons (ae_gty rfl T.n_tuple boot_tuple) aa_nil)) T.n_isinstance boot_isinstance))) (aw_or (at_ne hu64 (ae_callB call_len abc_len (aa_cons (av 0) aa_nil) T.n_len boot_len) ae_int) (aw_or1 (at_not (at_tru (ae_callB call_isi abc_isi (aa_cons (ae_ix hu1 (av 0) ae_int) (aa_cons (ae_gty rfl T.n_str boot_str) aa_nil)) T.n_isinstance boot_isinstance))))))) (ass_one (as_ret ae_bl)) ass_nil)
    (ass_cons (as_if (at_eq hu64 (ae_ix hu1 (av 0) ae_int) ae_str) (ass_one (as_ret (ae_and (ae_call (ok_is_whole T) (hr.mono (by decide)) T.m_is_whole T.F_is_whole.kp T.b_is_whole (aa_cons (ae_ix hu1 (av 0) ae_int) aa_nil)) (ae_and (ae_eq hu64 (ae_ix hu1 (av 0) ae_int) (av 1)) (ae_and1 (ae_call (ok_are_widths T) (hr.mono (by decide)) T.m_are_widths T.F_are_widths.kp T.b_are_widths (aa_cons (ae_ix hu1 (av 0) ae_int) (aa_cons (ae_ix hu1 (av 0) ae_int) (aa_cons (av 2) (aa_cons (av 3) aa_nil)))))))))) ass_nil)
    (ass_cons (as_if (AW.pt (aw_or (at_ne hu64 (ae_ix hu1 (av 0) ae_int) ae_str) (aw_or1 (at_not (at_tru (ae_call (ok_is_between T) (hr.mono (by decide)) T.m_is_between T.F_is_between.kp T.b_is_between (aa_cons (ae_ix hu1 (av 0) ae_int) (aa_cons ae_int (aa_cons (ae_sub (av 3) ae_int) aa_nil))))))))) (ass_one (as_ret ae_bl)) ass_nil)
    (ass_one (as_ret (ae_and (ae_call (ok_is_between T) (hr.mono (by decide)) T.m_is_between T.F_is_between.kp T.b_is_between (aa_cons (ae_ix hu1 (av 0) ae_int) (aa_cons ae_int (aa_cons (ae_sub (ae_ix hu1 (av 2) ae_int) ae_int) aa_nil)))) (ae_and1 (ae_call (ok_is_block T) (hr.mono (by decide)) T.m_is_block T.F_is_block.kp T.b_is_block (aa_cons (ae_ix hu1 (av 0) ae_int) (aa_cons (ae_ix hu1 (av 2) ae_int) aa_nil))))))))))) spec_is_note
def sp_is_journal : ASp := fun ds M Q => ∃ d n, ∃ par size rows many : Int, ∃ a b c, ds = [d, .tup [.int par, .int size, .int rows, a, b, c], .int many] ∧ Pn (n + 2) d ∧ Q (.bl (journalB d par size rows many)) M
def tk_is_journal_1 : RS := (aRet (aFn acAll (aCons (aFz (aLc (aiSeq (aFz (aSl (aVar 0) aoN (aoS (aUn aNeg (aC (.int 1))))))) (.nm 4) [4] aYes (aOp aEq (aOp aIx (aVar 4) (aC (.int 0))) (aC (.str ("block" : Str)))))) aNil)))
def t_is_journal : RS := aSeq (aIfS (aOr (aNot (aTru (aFn acIsi (aCons (aVar 0) (aCons (aC (.ty "tuple")) aNil))))) (aNot (aTru (aFn acAll (aCons (aFz (aLc (aiEnum (aCons (aVar 0) aNil)) (.tp [(.nm 3), (.nm 4)]) [3, 4] aYes (aCall sp_is_note (aCons (aVar 4) (aCons (aVar 3) (aCons (aVar 1) (aCons (aVar 2) aNil))))))) aNil))))) (aRet (aC (.bl false))) aNext) (tk_is_journal_1)
theorem len_is_journal : ∀ ds M Q, sp_is_journal ds M Q → ds.length = 3 := by
  rintro ds M Q ⟨d, n, par, size, rows, many, a, b, c, rfl, _⟩
  rfl
theorem spec_is_journal : ∀ ds M Q, sp_is_journal ds M Q → t_is_journal (retD Q) (startA 5 ds) M := by
  rintro ds M Q ⟨d, n, par, size, rows, many, u, v, w, rfl, h, k⟩
  cases d <;> first | exact h.elim | (decreasing_tactic; exact retEnd k) | skip
  case tup xs =>
  obtain ⟨hl, h⟩ := h
  have hg : ∀ i, i < xs.length → xs.getD i .non ∈ xs := fun i hi => by
    rw [List.getD_eq_getElem?_getD, List.getElem?_eq_getElem hi]
    exact List.getElem_mem hi
  simp only [journalB] at k
  decreasing_tactic
  refine lcF (fun i => .bl (noteB (xs.getD i .non) i par size rows many)) (fun _ => rfl) (by rw [enumD_len]; exact hl) (fun i d hd M' N hs q => ?_) ?_
  · obtain ⟨f, hf, rfl⟩ := enumD_get' hd
    have e : xs.getD i .non = f := by rw [List.getD_eq_getElem?_getD, hf]; rfl
    rw [e] at q
    exact ⟨_, rfl, f, n, i, par, size, rows, many, u, v, w, rfl, h f (List.mem_of_getElem? hf), q⟩
  · rw [enumD_len]
    ((conv => whnf); refine ⟨_, acAll_eq, ?_⟩; rw [all_map_id])
    cases e1 : ((List.range xs.length).all fun (i : Nat) => noteB (xs.getD i .non) i par size rows many) with
    | false => rw [e1, Bool.false_and] at k; exact retEnd k
    | true =>
    rw [e1, Bool.true_and] at k
    rw [List.all_eq_true] at e1
    decreasing_tactic
    rw [cut_last]
    refine lcM (fun d => .bl (isBlk d)) (fun _ => rfl) (by simp; omega) (fun d hd M' N hs q => ?_) ?_
    · obtain ⟨i, hi, e⟩ := List.mem_iff_getElem.mp hd
      simp at hi e
      have hi' : i < xs.length := by omega
      have e2 := e1 i (List.mem_range.mpr hi')
      rw [List.getD_eq_getElem?_getD, List.getElem?_eq_getElem hi'] at e2
      have e3 : noteB d i par size rows many = true := by rw [← e]; exact e2
      obtain ⟨x, a, b, c, rfl⟩ := noteB_shape e3
      have hm : Dv.tup [.str x, a, b, c] ∈ xs := by rw [← e]; exact List.getElem_mem hi'
      have px : Pn n (.str x) := (h _ hm).2 _ (by simp)
      have py : Pl 9 (.str x) := by cases n <;> exact px
      have pb : Pl 9 (.str ("block" : Str)) := by show PyData.canLay0 (.str _) = true; decide +kernel
      have i0 : atI [.str x, a, b, c] 0 = some (.str x) := rfl
      refine ⟨_, rfl, ?_⟩
      ((repeat ((conv => whnf); simp only [lenA_r, itemsA_r, lstA_r, lstC_s, Option.map_some, atI_0, ixN_0, mup_same, mup_mup, true_and, and_true, List.map_cons, List.map_nil, List.length_cons, List.length_map, List.length_nil, List.set_cons_zero, List.set_cons_succ, List.cons_append, List.nil_append, List.getElem?_cons_zero, List.getElem?_cons_succ, i0])); (conv => whnf))
      refine ⟨py, pb, ?_⟩
      rw [HC.dec_str]
      exact q
    · exact acAll_map (retEnd k)
theorem ok_is_journal (T : Tx K mg) : FnA P w K mg base 5 T.f_is_journal T.d_is_journal [("thing" : Str), ("head" : Str), ("many" : Str)] sp_is_journal :=
  fnA T.F_is_journal sc_is_journal len_is_journal (fun cdv A outer s H E hr => by
    have hu1 := hu_of hr
    have hu64 := hr.units
    exact (ass_cons (as_if (AW.pt (aw_or (at_not (at_tru (ae_callB call_isi abc_isi (aa_cons (av 0) (aa_cons (ae_gty rfl T.n_tuple boot_tuple) aa_nil)) T.n_isinstance boot_isinstance))) (aw_or1 (at_not (at_tru (ae_callB (cr_all rfl) abc_all (aa_cons (ae_fz (ae_lc (own := [(("at" : Str), 3), (("note" : Str), 4)]) (tg := (.tp [(.nm 3), (.nm 4)])) (by decide) rfl sc_is_journal.nd (ai_enum T.n_enumerate (aa_cons (av 0) aa_nil)) (blkOk_by (own := [(("at" : Str), 3), (("note" : Str), 4)]) (N := N_is_journal) (sc := defScope s_is_journal) (by decide +kernel)) (fun _ _ _ _ _ => (pgt_tup rfl (pgts_cons (pgt_name 3 sc_is_journal.nd) (pgts_cons (pgt_name 4 sc_is_journal.nd) pgts_nil)))) (fun _ _ _ _ _ => ats_nil) (fun _ _ _ _ _ => (ae_call (ok_is_note T) (hr.mono (by decide)) T.m_is_note T.F_is_note.kp T.b_is_note (aa_cons (av 4) (aa_cons (av 3) (aa_cons (av 1) (aa_cons (av 2) aa_nil)))))))) aa_nil) T.n_all boot_all)))))) (ass_one (as_ret ae_bl)) ass_nil)
    (ass_one (as_ret (ae_callB (cr_all rfl) abc_all (aa_cons (ae_fz (ae_lc (own := [(("note" : Str), 4)]) (tg := (.nm 4)) (by decide) rfl sc_is_journal.nd (ai_seq (ae_fz (ae_slice (av 0) ao_none (ao_some (ae_neg ae_int))))) (blkOk_by (own := [(("note" : Str), 4)]) (N := N_is_journal) (sc := defScope s_is_journal) (by decide +kernel)) (fun _ _ _ _ _ => (pgt_name 4 sc_is_journal.nd)) (fun _ _ _ _ _ => ats_nil) (fun _ _ _ _ _ => (ae_eq hu64 (ae_ix hu1 (av 4) ae_int) ae_str)))) aa_nil) T.n_all boot_all))))) spec_is_journal
def sp_is_store : ASp := fun ds M Q => ∃ d, ds = [d] ∧ ((∃ n, Pn (n + 3) d ∧ Q (.bl (storeB d)) M) ∨ (∃ a kvs, d = .ref a ∧ M a = some (.dic kvs) ∧ Q (.bl false) M))
def tk_is_store_3 : RS := (aRet (aCall sp_is_journal (aCons (aVar 3) (aCons (aVar 1) (aCons (aFn acLen (aCons (aVar 2) aNil)) aNil)))))
def tk_is_store_2 : RS := aSeq (aIfS (aOr (aNot (aTru (aCall sp_is_head (aCons (aVar 1) (aCons (aFn acLen (aCons (aVar 2) aNil)) aNil))))) (aNot (aTru (aFn acAll (aCons (aFz (aLc (aiSeq (aVar 2)) (.nm 4) [4] aYes (aCall sp_is_disk (aCons (aVar 4) (aCons (aOp aIx (aVar 1) (aC (.int 1))) (aCons (aOp aIx (aVar 1) (aC (.int 2))) aNil)))))) aNil))))) (aRet (aC (.bl false))) aNext) (tk_is_store_3)
def tk_is_store_1 : RS := aSeq (aAsg (aVar 0) (agTup 3 (agCons (agName 1) (agCons (agName 2) (agCons (agName 3) agNil))))) (tk_is_store_2)
def t_is_store : RS := aSeq (aIfS (aOr (aNot (aTru (aFn acIsi (aCons (aVar 0) (aCons (aC (.ty "tuple")) aNil))))) (aOr (aB (aOp aNe (aFn acLen (aCons (aVar 0) aNil)) (aC (.int 3)))) (aNot (aTru (aFn acIsi (aCons (aOp aIx (aVar 0) (aC (.int 1))) (aCons (aC (.ty "tuple")) aNil))))))) (aRet (aC (.bl false))) aNext) (tk_is_store_1)
theorem len_is_store : ∀ ds M Q, sp_is_store ds M Q → ds.length = 1 := by
  rintro ds M Q ⟨d, rfl, _⟩
  rfl
theorem spec_is_store : ∀ ds M Q, sp_is_store ds M Q → t_is_store (retD Q) (startA 5 ds) M := by
  rintro ds M Q ⟨d, rfl, ⟨n, h, k⟩ | ⟨a, kvs, rfl, ha, k⟩⟩
  case inr =>
    ((repeat ((conv => whnf); simp only [lenA_r, itemsA_r, lstA_r, lstC_s, Option.map_some, atI_0, ixN_0, mup_same, mup_mup, true_and, and_true, List.map_cons, List.map_nil, List.length_cons, List.length_map, List.length_nil, List.set_cons_zero, List.set_cons_succ, List.cons_append, List.nil_append, List.getElem?_cons_zero, List.getElem?_cons_succ, tyN, ha])); (conv => whnf))
    refine ⟨false, by decide +kernel, ?_⟩
    exact retEnd k
  cases d <;> first | exact h.elim | (decreasing_tactic; exact retEnd k) | skip
  case tup xs =>
  by_cases hl : xs.length = 3
  case neg =>
    rw [storeB_len hl] at k
    decreasing_tactic
    exact retEnd k
  match xs, hl with
  | [hd, b, j], hl6 =>
  obtain ⟨hlen, h⟩ := h
  have hh := h hd (by simp)
  have hb := h b (by simp)
  have hj := h j (by simp)
  have i1 : atI [hd, b, j] 1 = some b := rfl
  decreasing_tactic
  ((repeat ((conv => whnf); simp only [lenA_r, itemsA_r, lstA_r, lstC_s, Option.map_some, atI_0, ixN_0, mup_same, mup_mup, true_and, and_true, List.map_cons, List.map_nil, List.length_cons, List.length_map, List.length_nil, List.set_cons_zero, List.set_cons_succ, List.cons_append, List.nil_append, List.getElem?_cons_zero, List.getElem?_cons_succ, i1])); (conv => whnf))
  by_cases hs : ∃ y, b = .tup y
  case neg =>
    have hs' : ∀ y, b ≠ .tup y := fun y e => hs ⟨y, e⟩
    rw [storeB_mid hs'] at k
    cases b <;> first | exact hb.elim | exact absurd rfl (hs' _) | (decreasing_tactic; exact retEnd k)
  obtain ⟨disks, rfl⟩ := hs
  simp only [storeB] at k
  decreasing_tactic
  refine ⟨hd, n + 1, disks.length, rfl, hh, ?_⟩
  cases e1 : headB hd disks.length with
  | false => rw [e1, Bool.false_and] at k; exact retEnd k
  | true =>
  rw [e1, Bool.true_and] at k
  obtain ⟨p, s, r, w, m, f, rfl⟩ := headB_shape e1
  simp only [] at k
  have j1 : atI [Dv.int p, .int s, .int r, w, m, .int f] 1 = some (.int s) := rfl
  have j2 : atI [Dv.int p, .int s, .int r, w, m, .int f] 2 = some (.int r) := rfl
  decreasing_tactic
  refine lcM (fun x => .bl (diskB x s r)) (fun _ => rfl) hb.1 (fun d hd M' N hs q => ⟨_, rfl, ?_⟩) ?_
  · ((repeat ((conv => whnf); simp only [lenA_r, itemsA_r, lstA_r, lstC_s, Option.map_some, atI_0, ixN_0, mup_same, mup_mup, true_and, and_true, List.map_cons, List.map_nil, List.length_cons, List.length_map, List.length_nil, List.set_cons_zero, List.set_cons_succ, List.cons_append, List.nil_append, List.getElem?_cons_zero, List.getElem?_cons_succ, j1, j2])); (conv => whnf))
    exact ⟨d, n + 1, s, r, rfl, hb.2 d hd, q⟩
  · ((conv => whnf); refine ⟨_, acAll_eq, ?_⟩; rw [all_map_id])
    cases e2 : (disks.all fun x => diskB x s r) with
    | false => rw [e2, Bool.false_and] at k; exact retEnd k
    | true =>
    rw [e2, Bool.true_and] at k
    decreasing_tactic
    exact ⟨j, n, p, s, r, disks.length, w, m, .int f, rfl, hj, retEnd k⟩
theorem ok_is_store (T : Tx K mg) : FnA P w K mg base 6 T.f_is_store T.d_is_store [("thing" : Str)] sp_is_store :=
  fnA T.F_is_store sc_is_store len_is_store (fun cdv A outer s H E hr => by
    have hu1 := hu_of hr
    have hu64 := hr.units
    exact (ass_cons (as_if (AW.pt (aw_or (at_not (at_tru (ae_callB call_isi abc_isi (aa_cons (av 0) (aa_cons (ae_gty rfl T.n_tuple boot_tuple) aa_nil)) T.n_isinstance boot_isinstance))) (aw_or (at_ne hu64 (ae_callB call_len abc_len (aa_cons (av 0) aa_nil) T.n_len boot_len) ae_int) (aw_or1 (at_not (at_tru (ae_callB call_isi abc_isi (aa_cons (ae_ix hu1 (av 0) ae_int) (aa_cons (ae_gty rfl T.n_tuple boot_tuple) aa_nil)) T.n_isinstance boot_isinstance))))))) (ass_one (as_ret ae_bl)) ass_nil)
    (ass_cons (as_asg (av 0) (ag_tup rfl (ags_cons (ag_name 1 sc_is_store.nd) (ags_cons (ag_name 2 sc_is_store.nd) (ags_cons (ag_name 3 sc_is_store.nd) ags_nil)))))
    (ass_cons (as_if (AW.pt (aw_or (at_not (at_tru (ae_call (ok_is_head T) (hr.mono (by decide)) T.m_is_head T.F_is_head.kp T.b_is_head (aa_cons (av 1) (aa_cons (ae_callB call_len abc_len (aa_cons (av 2) aa_nil) T.n_len boot_len) aa_nil))))) (aw_or1 (at_not (at_tru (ae_callB (cr_all rfl) abc_all (aa_cons (ae_fz (ae_lc (own := [(("disk" : Str), 4)]) (tg := (.nm 4)) (by decide) rfl sc_is_store.nd (ai_seq (av 2)) (blkOk_by (own := [(("disk" : Str), 4)]) (N := N_is_store) (sc := defScope s_is_store) (by decide +kernel)) (fun _ _ _ _ _ => (pgt_name 4 sc_is_store.nd)) (fun _ _ _ _ _ => ats_nil) (fun _ _ _ _ _ => (ae_call (ok_is_disk T) (hr.mono (by decide)) T.m_is_disk T.F_is_disk.kp T.b_is_disk (aa_cons (av 4) (aa_cons (ae_ix hu1 (av 1) ae_int) (aa_cons (ae_ix hu1 (av 1) ae_int) aa_nil))))))) aa_nil) T.n_all boot_all)))))) (ass_one (as_ret ae_bl)) ass_nil)
    (ass_one (as_ret (ae_call (ok_is_journal T) (hr.mono (by decide)) T.m_is_journal T.F_is_journal.kp T.b_is_journal (aa_cons (av 3) (aa_cons (av 1) (aa_cons (ae_callB call_len abc_len (aa_cons (av 2) aa_nil) T.n_len boot_len) aa_nil)))))))))) spec_is_store
def sp_read_store : ASp := fun ds M Q => ∃ text : Str, ∃ dr, ds = [.str text] ∧ PySem.W.KSb.Asc text ∧ text.length ≤ 50000 ∧ readR text = .inr dr ∧ Q (wholeV dr) M
def sx_read_store : XSp := fun ds M Q E => ∃ text : Str, ds = [.str text] ∧ PySem.W.KSb.Asc text ∧ text.length ≤ 50000 ∧ ((∃ i, readR text = .inl i ∧ E "NoText" (some (i : Int)) M) ∨ ∃ dr, readR text = .inr dr ∧ Q (wholeV dr) M)
def tk_read_store_4 (W : WXA) : RS := (aRet (aMeth ("Draft" : Str) ("whole" : Str) sp_Draft_whole (aVar 1) aNil))
def tk_read_store_3 (W : WXA) : RS := aSeq (aIfS (aNot (aTru (aCall sp_is_store (aCons (aMeth ("Draft" : Str) ("whole" : Str) sp_Draft_whole (aVar 1) aNil) aNil)))) (aRaiseR W ("NoText" : Str) (aFn acLen (aCons (aVar 2) aNil))) aNext) (tk_read_store_4 W)
def tk_read_store_2 (W : WXA) : RS := aSeq (aFor (aiEnum (aCons (aVar 2) aNil)) (agTup 2 (agCons (agName 3) (agCons (agName 4) agNil))) (aIfS (aNot (aTru (aMeth ("Draft" : Str) ("put" : Str) sp_Draft_put (aVar 1) (aCons (aVar 4) aNil)))) (aRaiseR W ("NoText" : Str) (aVar 3)) aNext)) (tk_read_store_3 W)
def tk_read_store_1 (W : WXA) : RS := aSeq (aAsg (aFz (aMth "str" amSplit (aVar 0) (aCons (aC (.str ("\n" : Str))) aNil))) (agName 2)) (tk_read_store_2 W)
def t_read_store (W : WXA) : RS := aSeq (aAsg (aMk0 ("Draft" : Str) sp_Draft___init__) (agName 1)) (tk_read_store_1 W)
theorem nox_read_store : ∀ ds M Q, sp_read_store ds M Q → sx_read_store ds M Q fun _ _ _ => False := by
  rintro ds M Q ⟨text, dr, rfl, ha, hl, h, k⟩
  exact ⟨text, rfl, ha, hl, .inr ⟨dr, h, k⟩⟩
theorem len_read_store : ∀ ds M Q E, sx_read_store ds M Q E → ds.length = 1 := by
  rintro ds M Q E ⟨text, rfl, _⟩
  rfl
theorem spec_read_store : ∀ ds M Q E, sx_read_store ds M Q E → t_read_store (fun c f M => ∃ M', HC.Sub M' M ∧ E c f M') (retD Q) (startA 5 ds) M := by
  rintro ds M Q E ⟨text, rfl, ha, hl, hk⟩
  obtain ⟨_, _, b1, b2, _, b3⟩ := tl_blank
  have wo := split_words b1 b2 ha hl
  have wl0 : ∀ w ∈ Txt.split text ("\n" : Str), w.length ≤ 50000 := fun w hw => Nat.le_trans (split_len b1 b2 hw) hl
  have wm := split_many (x := text) b1 b2
  unfold readR at hk
  decreasing_tactic
  intro p hp
  refine ⟨M, p, rfl, HC.Sub.new hp, hp, mup_same, fun M1 hd => ⟨rfl, ?_⟩⟩
  decreasing_tactic
  refine ⟨rfl, ?_⟩
  decreasing_tactic
  generalize Txt.split text ("\n" : Str) = rows at wo wl0 wm hk ⊢
  have hd0 : DrAt M M1 p dr0 := hd
  clear hd
  have ew : (rows.map Dv.str).length = rows.length := List.length_map _
  refine forW_inv (fun i ρ M' => ∃ dr x3 x4, ρ = [some (.str text), some (.ref p), some (.rol (rows.map Dv.str)), x3, x4] ∧ runR dr0 0 rows = runR dr i (rows.drop i) ∧ DrAt M M' p dr ∧ DrSz dr i) ⟨dr0, none, none, rfl, rfl, hd0, dr0_sz⟩ (fun _ _ _ _ _ => rfl) ?_ ?_
  · rintro i d ρ M' hi ⟨dr, x3, x4, rfl, er, hd, sz⟩
    obtain ⟨f, hf, rfl⟩ := enumD_get' hi
    rw [List.getElem?_map] at hf
    obtain ⟨row, hr, rfl⟩ := Option.map_eq_some_iff.mp hf
    have hm := List.mem_of_getElem? hr
    have il : i < rows.length := (List.getElem?_eq_some_iff.mp hr).1
    have ed : rows.drop i = row :: rows.drop (i + 1) := drop_cons hr
    have ra := (wo.2.1 row hm).1
    have rl := wl0 row hm
    obtain ⟨l1, l2, hq, h1, h2, pd, pn, ph⟩ := hd.puts
    have e1 := objC_l hq
    have no := dr_no (numsV dr.head) l1 l2
    have d1 := sz.d1
    have n1 := sz.n1
    decreasing_tactic
    ((repeat ((conv => whnf); simp only [lenA_r, itemsA_r, lstA_r, lstC_s, Option.map_some, atI_0, ixN_0, mup_same, mup_mup, true_and, and_true, List.map_cons, List.map_nil, List.length_cons, List.length_map, List.length_nil, List.set_cons_zero, List.set_cons_succ, List.cons_append, List.nil_append, List.getElem?_cons_zero, List.getElem?_cons_succ, e1])); (conv => whnf))
    refine ⟨no.2.2.2.1, ?_⟩
    decreasing_tactic
    refine ⟨M, p, dr, row, rfl, hd, ra, rl, by omega, by omega, fun hn M2 s2 => ?_, fun dr' hs M2 hd2 => ?_⟩
    · rw [er, run_at ed, hn] at hk
      rcases hk with ⟨j, hj, k⟩ | ⟨d, hj, _⟩
      · cases hj
        decreasing_tactic
        exact ⟨M, s2, k⟩
      · cases hj
    · decreasing_tactic
      refine wk_of ⟨dr', _, _, rfl, ?_, hd2, putR_sz sz (split_words tl_blank.1 tl_blank.2.1 ra rl) hs⟩
      rw [er, run_at ed, hs]
  · rintro ρ M' ⟨dr, x3, x4, rfl, er, hd, sz⟩
    rw [enumD_len, ew, List.drop_length] at er
    rw [er] at hk
    rw [enumD_len, ew] at sz
    have hk : (∃ i, (if storeB (wholeV dr) = true then Sum.inr dr else Sum.inl rows.length) = (Sum.inl i : Sum Nat Dr) ∧ E "NoText" (some (i : Int)) M) ∨ ∃ d, (if storeB (wholeV dr) = true then Sum.inr dr else Sum.inl rows.length) = (Sum.inr d : Sum Nat Dr) ∧ Q (wholeV d) M := hk
    obtain ⟨l1, l2, hq, h1, h2, pd, pn, ph⟩ := hd.puts
    have e1 := objC_l hq
    have no := dr_no (numsV dr.head) l1 l2
    decreasing_tactic
    ((repeat ((conv => whnf); simp only [lenA_r, itemsA_r, lstA_r, lstC_s, Option.map_some, atI_0, ixN_0, mup_same, mup_mup, true_and, and_true, List.map_cons, List.map_nil, List.length_cons, List.length_map, List.length_nil, List.set_cons_zero, List.set_cons_succ, List.cons_append, List.nil_append, List.getElem?_cons_zero, List.getElem?_cons_succ, e1])); (conv => whnf))
    refine ⟨no.2.2.2.2, ?_⟩
    decreasing_tactic
    refine ⟨M, p, dr, rfl, hd, ?_⟩
    decreasing_tactic
    refine ⟨_, rfl, .inl ⟨1, whole_pn sz (by omega), ?_⟩⟩
    cases hb : storeB (wholeV dr) with
    | false =>
      rw [hb] at hk
      rcases hk with ⟨j, hj, k⟩ | ⟨d, hj, _⟩
      · cases hj
        have hb2 : storeB (Dv.tup [numsV dr.head, .tup (dr.disks.map kD), .tup (dr.notes.map ntV)]) = false := hb
        rw [hb2]
        decreasing_tactic
        rw [ew]
        exact ⟨M, hd.sub, k⟩
      · cases hj
    | true =>
      rw [hb] at hk
      rcases hk with ⟨j, hj, k⟩ | ⟨d, hj, k⟩
      · cases hj
      · cases hj
        have hb2 : storeB (Dv.tup [numsV dr.head, .tup (dr.disks.map kD), .tup (dr.notes.map ntV)]) = true := hb
        rw [hb2]
        decreasing_tactic
        ((repeat ((conv => whnf); simp only [lenA_r, itemsA_r, lstA_r, lstC_s, Option.map_some, atI_0, ixN_0, mup_same, mup_mup, true_and, and_true, List.map_cons, List.map_nil, List.length_cons, List.length_map, List.length_nil, List.set_cons_zero, List.set_cons_succ, List.cons_append, List.nil_append, List.getElem?_cons_zero, List.getElem?_cons_succ, e1])); (conv => whnf))
        refine ⟨no.2.2.2.2, ?_⟩
        decreasing_tactic
        exact ⟨M, p, dr, rfl, hd, M, hd.sub, k⟩
theorem okX_read_store (T : Tx K mg) : FnX P w K mg base 7 T.f_read_store T.d_read_store [("text" : Str)] sx_read_store :=
  fnX (x := ("read_store" : Str)) T.F_read_store sc_read_store len_read_store (fun cdv A outer s H E W hr tk hpx => by
    have hu1 := hu_of hr
    have hu64 := hr.units
    exact (ass_cons (as_set 1 sc_read_store.nd (ae_mk0 T.kl_Draft T.mk_Draft (ok_Draft___init__ T) (hr.mono (by decide)) T.gk_Draft T.b_Draft___init__))
    (ass_cons (as_set 2 sc_read_store.nd (ae_fz (ae_split (av 0) (aa_cons ae_str aa_nil))))
    (ass_cons (as_for hpx rfl (ai_enum T.n_enumerate (aa_cons (av 2) aa_nil)) (ag_tup rfl (ags_cons (ag_name 3 sc_read_store.nd) (ags_cons (ag_name 4 sc_read_store.nd) ags_nil))) (ass_one (as_if (at_not (at_tru (ae_meth T.kl_Draft T.me_Draft_put (ok_Draft_put T) (hr.mono (by decide)) T.b_Draft_put (av 1) (aa_cons (av 4) aa_nil)))) (ass_one (as_raiseR rfl tk (xr_NoText T) hr (by decide) (av 3))) ass_nil)))
    (ass_cons (as_if (at_not (at_tru (ae_call (ok_is_store T) (hr.mono (by decide)) T.m_is_store T.F_is_store.kp T.b_is_store (aa_cons (ae_meth0 T.kl_Draft T.me_Draft_whole (ok_Draft_whole T) (hr.mono (by decide)) T.b_Draft_whole (av 1)) aa_nil)))) (ass_one (as_raiseR rfl tk (xr_NoText T) hr (by decide) (ae_callB call_len abc_len (aa_cons (av 2) aa_nil) T.n_len boot_len))) ass_nil)
    (ass_one (as_ret (ae_meth0 T.kl_Draft T.me_Draft_whole (ok_Draft_whole T) (hr.mono (by decide)) T.b_Draft_whole (av 1))))))))) spec_read_store
theorem ok_read_store (T : Tx K mg) : FnA P w K mg base 7 T.f_read_store T.d_read_store [("text" : Str)] sp_read_store := FnX.norm (okX_read_store T) nox_read_store
def sp_law_refused : ASp := fun ds M Q => ∃ text : Str, ds = [.str text] ∧ PySem.W.KSb.Asc text ∧ text.length ≤ 50000 ∧ ((∃ i : Nat, readR text = .inl i ∧ Q (dn i) M) ∨ ∃ dr, readR text = .inr dr ∧ Q (.int (-1)) M)
def tk_law_refused_10 : RS := (aRet (aVar 2))
def tk_law_refused_9 : RS := aSeq (aIfS (aOr (aTru (aFn acIsi (aCons (aVar 2) (aCons (aC (.ty "bool")) aNil)))) (aNot (aTru (aFn acIsi (aCons (aVar 2) (aCons (aC (.ty "int")) aNil)))))) (aRet (aUn aNeg (aC (.int 1)))) aNext) (tk_law_refused_10)
def tk_law_refused_8 : RS := aSeq (aIfS (aAnd (aTru (aIsXN (aVar 1) [(("NoText" : Str), true)])) (aAnd (aTru (aIsXN (aVar 1) [(("NoText" : Str), true)])) (aB (aOp (aInTB true) (aC (.bl true)) (aVar 4))))) (aAsg (aRow (aVar 1) [("NoText" : Str)]) (agName 2)) aNext) (tk_law_refused_9)
def tk_law_refused_7 : RS := aSeq (aAsg (aFz (aOp aAddF (aVar 4) (aLst (aCons (aIsXN (aVar 1) [(("NoText" : Str), false)]) (aCons (aIsXN (aVar 1) [(("NoText" : Str), false)]) aNil))))) (agName 4)) (tk_law_refused_8)
def tk_law_refused_6 : RS := aSeq (aAsg (aFz (aOp aAddF (aVar 4) (aLst (aCons (aIsXN (aVar 1) [(("NoText" : Str), false)]) (aCons (aIsXN (aVar 1) [(("NoText" : Str), false)]) aNil))))) (agName 4)) (tk_law_refused_7)
def tk_law_refused_5 : RS := aSeq (aAsg (aFz (aOp aAddF (aVar 4) (aLst (aCons (aIsXN (aVar 1) [(("NoText" : Str), false)]) (aCons (aIsXN (aVar 1) [(("NoText" : Str), false)]) aNil))))) (agName 4)) (tk_law_refused_6)
def tk_law_refused_4 : RS := aSeq (aAsg (aFz (aOp aAddF (aVar 4) (aLst (aCons (aIsXN (aVar 1) [(("NoText" : Str), false)]) (aCons (aIsXN (aVar 1) [(("NoText" : Str), false)]) aNil))))) (agName 4)) (tk_law_refused_5)
def tk_law_refused_3 : RS := aSeq (aAsg (aFz (aLst (aCons (aIsXN (aVar 1) [(("NoText" : Str), false)]) (aCons (aIsXN (aVar 1) [(("NoText" : Str), false)]) (aCons (aIsXN (aVar 1) [(("NoText" : Str), false)]) aNil))))) (agName 4)) (tk_law_refused_4)
def tk_law_refused_2 : RS := aSeq (aTryAs (sxExpr (axCall sx_read_store (aCons (aVar 0) aNil))) [(("NoText" : Str), true)] 3 (aAsg (aVar 3) (agName 1)) (fun _ _ _ => False)) (tk_law_refused_3)
def tk_law_refused_1 : RS := aSeq (aAsg (aUn aNeg (aC (.int 1))) (agName 2)) (tk_law_refused_2)
def t_law_refused : RS := aSeq (aAsg (aC .non) (agName 1)) (tk_law_refused_1)
theorem len_law_refused : ∀ ds M Q, sp_law_refused ds M Q → ds.length = 1 := by
  rintro ds M Q ⟨text, rfl, _⟩
  rfl
theorem spec_law_refused : ∀ ds M Q, sp_law_refused ds M Q → t_law_refused (retD Q) (startA 5 ds) M := by
  rintro ds M Q ⟨text, rfl, ha, hl, ⟨i, h, k⟩ | ⟨dr, h, k⟩⟩
  · decreasing_tactic
    refine ⟨text, rfl, ha, hl, .inl ⟨i, h, ?_⟩⟩
    decreasing_tactic
    intro q0 n0
    decreasing_tactic
    have s0 : HC.Sub M (mup M q0 (.lst [Dv.bl false, Dv.bl false])) := HC.Sub.new n0
    refine ⟨_, mup_same, le_line (by simp), fun u0 hu0 => fz_new hu0 ?_⟩
    generalize mup M q0 (.lst [Dv.bl false, Dv.bl false]) = N1 at s0 ⊢
    simp only [List.cons_append, List.nil_append]
    decreasing_tactic
    intro q1 n1
    decreasing_tactic
    have s1 : HC.Sub M (mup N1 q1 (.lst [Dv.bl false, Dv.bl false])) := s0.trans (HC.Sub.new n1)
    refine ⟨_, mup_same, le_line (by simp), fun u1 hu1 => fz_new hu1 ?_⟩
    generalize mup N1 q1 (.lst [Dv.bl false, Dv.bl false]) = N2 at s1 ⊢
    simp only [List.cons_append, List.nil_append]
    decreasing_tactic
    intro q2 n2
    decreasing_tactic
    have s2 : HC.Sub M (mup N2 q2 (.lst [Dv.bl false, Dv.bl false])) := s1.trans (HC.Sub.new n2)
    refine ⟨_, mup_same, le_line (by simp), fun u2 hu2 => fz_new hu2 ?_⟩
    generalize mup N2 q2 (.lst [Dv.bl false, Dv.bl false]) = N3 at s2 ⊢
    simp only [List.cons_append, List.nil_append]
    decreasing_tactic
    intro q3 n3
    decreasing_tactic
    have s3 : HC.Sub M (mup N3 q3 (.lst [Dv.bl false, Dv.bl false])) := s2.trans (HC.Sub.new n3)
    refine ⟨_, mup_same, le_line (by simp), fun u3 hu3 => fz_new hu3 ?_⟩
    generalize mup N3 q3 (.lst [Dv.bl false, Dv.bl false]) = N4 at s3 ⊢
    simp only [List.cons_append, List.nil_append]
    refine ⟨List.replicate 11 false, rfl, ?_⟩
    decreasing_tactic
    exact retSub s3 k
  · decreasing_tactic
    refine ⟨text, rfl, ha, hl, .inr ⟨dr, h, ?_⟩⟩
    decreasing_tactic
    intro q0 n0
    decreasing_tactic
    have s0 : HC.Sub M (mup M q0 (.lst [Dv.bl false, Dv.bl false])) := HC.Sub.new n0
    refine ⟨_, mup_same, le_line (by simp), fun u0 hu0 => fz_new hu0 ?_⟩
    generalize mup M q0 (.lst [Dv.bl false, Dv.bl false]) = N1 at s0 ⊢
    simp only [List.cons_append, List.nil_append]
    decreasing_tactic
    intro q1 n1
    decreasing_tactic
    have s1 : HC.Sub M (mup N1 q1 (.lst [Dv.bl false, Dv.bl false])) := s0.trans (HC.Sub.new n1)
    refine ⟨_, mup_same, le_line (by simp), fun u1 hu1 => fz_new hu1 ?_⟩
    generalize mup N1 q1 (.lst [Dv.bl false, Dv.bl false]) = N2 at s1 ⊢
    simp only [List.cons_append, List.nil_append]
    decreasing_tactic
    intro q2 n2
    decreasing_tactic
    have s2 : HC.Sub M (mup N2 q2 (.lst [Dv.bl false, Dv.bl false])) := s1.trans (HC.Sub.new n2)
    refine ⟨_, mup_same, le_line (by simp), fun u2 hu2 => fz_new hu2 ?_⟩
    generalize mup N2 q2 (.lst [Dv.bl false, Dv.bl false]) = N3 at s2 ⊢
    simp only [List.cons_append, List.nil_append]
    decreasing_tactic
    intro q3 n3
    decreasing_tactic
    have s3 : HC.Sub M (mup N3 q3 (.lst [Dv.bl false, Dv.bl false])) := s2.trans (HC.Sub.new n3)
    refine ⟨_, mup_same, le_line (by simp), fun u3 hu3 => fz_new hu3 ?_⟩
    generalize mup N3 q3 (.lst [Dv.bl false, Dv.bl false]) = N4 at s3 ⊢
    simp only [List.cons_append, List.nil_append]
    decreasing_tactic
    exact retSub s3 k
theorem ok_law_refused (T : Tx K mg) : FnA P w K mg base 8 T.f_law_refused T.d_law_refused [("_law_text" : Str)] sp_law_refused :=
  fnA T.F_law_refused sc_law_refused len_law_refused (fun cdv A outer s H E hr => by
    have hu1 := hu_of hr
    have hu64 := hr.units
    exact (ass_cons (as_set 1 sc_law_refused.nd ae_non)
    (ass_cons (as_set 2 sc_law_refused.nd (ae_neg ae_int))
    (ass_cons (as_tryAs 3 ⟨rfl, by decide, .inl T.ga_DiskError⟩ takesFW (xm_cons ⟨_, T.na_NoText, T.e_NoText_DiskError⟩ xm_nil) sc_law_refused.nd (fun Wk pn xe tk2 => (sxs_one (sx_expr (ax_call (takesN tk2) (okX_read_store T) (hr.mono (by decide)) T.m_read_store T.F_read_store.kp T.b_read_store (aa_cons (av 0) aa_nil))))) (fun a pn => (ass_one (as_set 1 sc_law_refused.nd (av 3)))))
    (ass_cons (as_set 4 sc_law_refused.nd (ae_fz (ae_lst (aa_cons (ae_isXN T.n_isinstance (av 1) (pe_glob (v := .ref T.ca_NoPlace) rfl T.ga_NoPlace rfl) (.own _) (xi_cons ⟨_, T.na_NoText, T.k_NoText_NoPlace, T.xk_NoText⟩ xi_nil) T.kn_NoPlace) (aa_cons (ae_isXN T.n_isinstance (av 1) (pe_glob (v := .ref T.ca_Halfway) rfl T.ga_Halfway rfl) (.own _) (xi_cons ⟨_, T.na_NoText, T.k_NoText_Halfway, T.xk_NoText⟩ xi_nil) T.kn_Halfway) (aa_cons (ae_isXN T.n_isinstance (av 1) (pe_glob (v := .ref T.ca_Gone) rfl T.ga_Gone rfl) (.own _) (xi_cons ⟨_, T.na_NoText, T.k_NoText_Gone, T.xk_NoText⟩ xi_nil) T.kn_Gone) aa_nil))))))
    (ass_cons (as_set 4 sc_law_refused.nd (ae_fz (ae_addF (av 4) (ae_lst (aa_cons (ae_isXN T.n_isinstance (av 1) (pe_glob (v := .ref T.ca_There) rfl T.ga_There rfl) (.own _) (xi_cons ⟨_, T.na_NoText, T.k_NoText_There, T.xk_NoText⟩ xi_nil) T.kn_There) (aa_cons (ae_isXN T.n_isinstance (av 1) (pe_glob (v := .ref T.ca_NoSpare) rfl T.ga_NoSpare rfl) (.own _) (xi_cons ⟨_, T.na_NoText, T.k_NoText_NoSpare, T.xk_NoText⟩ xi_nil) T.kn_NoSpare) aa_nil))))))
    (ass_cons (as_set 4 sc_law_refused.nd (ae_fz (ae_addF (av 4) (ae_lst (aa_cons (ae_isXN T.n_isinstance (av 1) (pe_glob (v := .ref T.ca_Growing) rfl T.ga_Growing rfl) (.own _) (xi_cons ⟨_, T.na_NoText, T.k_NoText_Growing, T.xk_NoText⟩ xi_nil) T.kn_Growing) (aa_cons (ae_isXN T.n_isinstance (av 1) (pe_glob (v := .ref T.ca_NotGrowing) rfl T.ga_NotGrowing rfl) (.own _) (xi_cons ⟨_, T.na_NoText, T.k_NoText_NotGrowing, T.xk_NoText⟩ xi_nil) T.kn_NotGrowing) aa_nil))))))
    (ass_cons (as_set 4 sc_law_refused.nd (ae_fz (ae_addF (av 4) (ae_lst (aa_cons (ae_isXN T.n_isinstance (av 1) (pe_glob (v := .ref T.ca_TooFew) rfl T.ga_TooFew rfl) (.own _) (xi_cons ⟨_, T.na_NoText, T.k_NoText_TooFew, T.xk_NoText⟩ xi_nil) T.kn_TooFew) (aa_cons (ae_isXN T.n_isinstance (av 1) (pe_glob (v := .ref T.ca_NoStore) rfl T.ga_NoStore rfl) (.own _) (xi_cons ⟨_, T.na_NoText, T.k_NoText_NoStore, T.xk_NoText⟩ xi_nil) T.kn_NoStore) aa_nil))))))
    (ass_cons (as_set 4 sc_law_refused.nd (ae_fz (ae_addF (av 4) (ae_lst (aa_cons (ae_isXN T.n_isinstance (av 1) (pe_glob (v := .ref T.ca_Lost) rfl T.ga_Lost rfl) (.own _) (xi_cons ⟨_, T.na_NoText, T.k_NoText_Lost, T.xk_NoText⟩ xi_nil) T.kn_Lost) (aa_cons (ae_isXN T.n_isinstance (av 1) (pe_glob (v := .ref T.ca_Untold) rfl T.ga_Untold rfl) (.own _) (xi_cons ⟨_, T.na_NoText, T.k_NoText_Untold, T.xk_NoText⟩ xi_nil) T.kn_Untold) aa_nil))))))
    (ass_cons (as_if (AW.pt (aw_and (at_tru (ae_isXN T.n_isinstance (av 1) (pe_glob (v := .ref T.ca_NoText) rfl T.ga_NoText rfl) (.own _) (xi_cons ⟨_, T.na_NoText, T.k_NoText_NoText, T.xk_NoText⟩ xi_nil) T.kn_NoText)) (aw_and (at_tru (ae_isXN T.n_isinstance (av 1) (pe_bltn (v := .ty "ValueError") rfl T.n_ValueError boot_ValueError rfl) (.ty _) (xi_cons ⟨_, T.na_NoText, T.k_NoText_ValueError, T.xk_NoText⟩ xi_nil) T.kn_ValueError)) (aw_and1 (at_notinTB ae_bl (av 4)))))) (ass_one (as_set 2 sc_law_refused.nd (ae_row (xf_cons ⟨_, T.na_NoText, T.rw_NoText⟩ xf_nil) (av 1)))) ass_nil)
    (ass_cons (as_if (AW.pt (aw_or (at_tru (ae_callB call_isi abc_isi (aa_cons (av 2) (aa_cons (ae_gty rfl T.n_bool boot_bool) aa_nil)) T.n_isinstance boot_isinstance)) (aw_or1 (at_not (at_tru (ae_callB call_isi abc_isi (aa_cons (av 2) (aa_cons (ae_gty rfl T.n_int boot_int) aa_nil)) T.n_isinstance boot_isinstance)))))) (ass_one (as_ret (ae_neg ae_int))) ass_nil)
    (ass_one (as_ret (av 2)))))))))))))) spec_law_refused
def sp_law_block_text : ASp := fun ds M Q => ∃ o : Option Blk, ds = [oD o] ∧ (∀ b, o = some b → b.length ≤ 16 ∧ ∀ x ∈ b, x < 256) ∧ Q (.str (oT o)) M
def tk_law_block_text_4 : RS := (aRet (aVar 2))
def tk_law_block_text_3 : RS := aSeq (aFor (aiSeq (aVar 0)) (agName 3) (aAsg (aOp aAdd (aOp aAdd (aVar 2) (aOp aIx (aVar 1) (aOp aDiv (aVar 3) (aC (.int 16))))) (aOp aIx (aVar 1) (aOp aSub (aVar 3) (aOp aMul (aOp aDiv (aVar 3) (aC (.int 16))) (aC (.int 16)))))) (agName 2))) (tk_law_block_text_4)
def tk_law_block_text_2 : RS := aSeq (aAsg (aC (.str ("" : Str))) (agName 2)) (tk_law_block_text_3)
def tk_law_block_text_1 : RS := aSeq (aAsg (aC (.str ("0123456789abcdef" : Str))) (agName 1)) (tk_law_block_text_2)
def t_law_block_text : RS := aSeq (aIfS (aB (aOp aIs (aVar 0) (aC .non))) (aRet (aC (.str ("-" : Str)))) aNext) (tk_law_block_text_1)
theorem len_law_block_text : ∀ ds M Q, sp_law_block_text ds M Q → ds.length = 1 := by
  rintro ds M Q ⟨b, rfl, _⟩
  rfl
theorem acc_len : ∀ (b : Blk) (a : Str), (b.foldl (fun a x => a ++ hexT (x / 16) ++ hexT (x % 16)) a).length = a.length + 2 * b.length
  | [], a => by simp
  | x :: b, a => by
    rw [List.foldl_cons, acc_len b, Str.length_append, Str.length_append, List.length_cons]
    have h : ∀ k, (hexT k).length = 1 := fun _ => rfl
    rw [h, h]
    omega
theorem spec_law_block_text : ∀ ds M Q, sp_law_block_text ds M Q → t_law_block_text (retD Q) (startA 4 ds) M := by
  rintro ds M Q ⟨o, rfl, hb, k⟩
  cases o with
  | none =>
    decreasing_tactic
    exact retEnd k
  | some b =>
    obtain ⟨bl, bb⟩ := hb b rfl
    have k : Q (.str (blkT b)) M := k
    rw [← acc_blk] at k
    have lf : ("0123456789abcdef" : Str).length ≤ sizeLine := le_line (by decide)
    decreasing_tactic
    refine forW_inv (fun i ρ M' => ∃ x3, ρ = [some (bD b), some (.str ("0123456789abcdef" : Str)), some (.str (accT (b.take i))), x3] ∧ M' = M) ⟨none, rfl, rfl⟩ (fun _ _ _ _ _ => rfl) ?_ ?_
    · rintro i d ρ M' hi ⟨x3, rfl, rfl⟩
      rw [List.getElem?_map] at hi
      obtain ⟨x, hx, rfl⟩ := Option.map_eq_some_iff.mp hi
      have x256 := bb x (List.mem_of_getElem? hx)
      have e1 : (x : Int) / 16 = ((x / 16 : Nat) : Int) := (Int.natCast_ediv _ _).symm
      have e2 : (x : Int) - ((x / 16 : Nat) : Int) * 16 = ((x % 16 : Nat) : Int) := by omega
      have f1 : atI ("0123456789abcdef" : Str).cps.toList ((x / 16 : Nat) : Int) = some (figS.cps.toList.getD (x / 16) 0) := fig_at (by omega)
      have f2 : atI ("0123456789abcdef" : Str).cps.toList ((x % 16 : Nat) : Int) = some (figS.cps.toList.getD (x % 16) 0) := fig_at (by omega)
      have lA : (accT (b.take i)).length ≤ 32 := by
        unfold accT
        rw [acc_len, List.length_take]
        have : ("" : Str).length = 0 := by decide
        rw [this]
        omega
      have eA : accT (b.take (i + 1)) = accT (b.take i) ++ hexT (x / 16) ++ hexT (x % 16) := by
        unfold accT
        rw [List.take_add_one, hx, List.foldl_append]
        rfl
      generalize accT (b.take i) = A at lA eA ⊢
      have h1 : ∀ k, (hexT k).length = 1 := fun _ => rfl
      have l1 : A.length + (hexT (x / 16)).length ≤ sizeLine := le_line (by rw [h1]; omega)
      have l2 : (A ++ hexT (x / 16)).length + (hexT (x % 16)).length ≤ sizeLine := le_line (by rw [Str.length_append, h1, h1]; omega)
      decreasing_tactic
      rw [e1]
      ((repeat ((conv => whnf); simp only [lenA_r, itemsA_r, lstA_r, lstC_s, Option.map_some, atI_0, ixN_0, mup_same, mup_mup, true_and, and_true, List.map_cons, List.map_nil, List.length_cons, List.length_map, List.length_nil, List.set_cons_zero, List.set_cons_succ, List.cons_append, List.nil_append, List.getElem?_cons_zero, List.getElem?_cons_succ, f1])); (conv => whnf))
      refine ⟨l1, ?_⟩
      decreasing_tactic
      rw [e1, e2]
      ((repeat ((conv => whnf); simp only [lenA_r, itemsA_r, lstA_r, lstC_s, Option.map_some, atI_0, ixN_0, mup_same, mup_mup, true_and, and_true, List.map_cons, List.map_nil, List.length_cons, List.length_map, List.length_nil, List.set_cons_zero, List.set_cons_succ, List.cons_append, List.nil_append, List.getElem?_cons_zero, List.getElem?_cons_succ, f2])); (conv => whnf))
      refine ⟨l2, ?_⟩
      decreasing_tactic
      exact wk_of ⟨some (dn x), by rw [eA]; rfl, rfl⟩
    · rintro ρ M' ⟨x3, rfl, rfl⟩
      rw [List.length_map, List.take_length]
      decreasing_tactic
      exact retEnd k
theorem ok_law_block_text (T : Tx K mg) : FnA P w K mg base 1 T.f_law_block_text T.d_law_block_text [("_law_block_here" : Str)] sp_law_block_text :=
  fnA T.F_law_block_text sc_law_block_text len_law_block_text (fun cdv A outer s H E hr => by
    have hu1 := hu_of hr
    have hu64 := hr.units
    exact (ass_cons (as_if (at_is (av 0) ae_non) (ass_one (as_ret ae_str)) ass_nil)
    (ass_cons (as_set 1 sc_law_block_text.nd ae_str)
    (ass_cons (as_set 2 sc_law_block_text.nd ae_str)
    (ass_cons (as_for PassesOwn.never rfl (ai_seq (av 0)) (ag_name 3 sc_law_block_text.nd) (ass_one (as_set 2 sc_law_block_text.nd (ae_add (ae_add (av 2) (ae_ix hu1 (av 1) (ae_div (av 3) ae_int))) (ae_ix hu1 (av 1) (ae_sub (av 3) (ae_mul (ae_div (av 3) ae_int) ae_int)))))))
    (ass_one (as_ret (av 2)))))))) spec_law_block_text
def sp_law_rows : ASp := fun ds M Q => ∃ s : Store, ds = [s.d] ∧ s.Ok ∧ s.journal.length ≤ 20 ∧ Q (.rol ((rowsT s).map Dv.str)) M
def tk_law_rows_4 : RS := (aRet (aFz (aVar 4)))
def tk_law_rows_3 : RS := aSeq (aFor (aiSeq (aVar 3)) (agName 6) (aIfS (aB (aOp aEq (aOp aIx (aVar 6) (aC (.int 0))) (aC (.str ("end" : Str))))) (aDrop (aMth "list" amApp (aVar 4) (aCons (aMth "str" amJoin (aC (.str (" " : Str))) (aCons (aFz (aOp aAdd (aLst (aCons (aC (.str ("end" : Str))) aNil)) (aLc (aiSeq (aFz (aSl (aVar 6) (aoS (aC (.int 1))) aoN))) (.nm 7) [7] aYes (aFn acStr (aCons (aVar 7) aNil))))) aNil)) aNil))) (aDrop (aMth "list" amApp (aVar 4) (aCons (aMth "str" amJoin (aC (.str (" " : Str))) (aCons (aFz (aLst (aCons (aC (.str ("note" : Str))) (aCons (aFn acStr (aCons (aOp aIx (aVar 6) (aC (.int 1))) aNil)) (aCons (aFn acStr (aCons (aOp aIx (aVar 6) (aC (.int 2))) aNil)) (aCons (aCall sp_law_block_text (aCons (aOp aIx (aVar 6) (aC (.int 3))) aNil)) aNil)))))) aNil)) aNil))))) (tk_law_rows_4)
def tk_law_rows_2 : RS := aSeq (aFor (aiSeq (aVar 2)) (agName 5) (aIfS (aB (aOp aIs (aVar 5) (aC .non))) (aDrop (aMth "list" amApp (aVar 4) (aCons (aC (.str ("lost" : Str))) aNil))) (aDrop (aMth "list" amApp (aVar 4) (aCons (aMth "str" amJoin (aC (.str (" " : Str))) (aCons (aFz (aOp aAdd (aLst (aCons (aC (.str ("disk" : Str))) aNil)) (aLc (aiSeq (aVar 5)) (.nm 8) [8] aYes (aCall sp_law_block_text (aCons (aVar 8) aNil))))) aNil)) aNil))))) (tk_law_rows_3)
def tk_law_rows_1 : RS := aSeq (aAsg (aLst (aCons (aMth "str" amJoin (aC (.str (" " : Str))) (aCons (aFz (aOp aAdd (aLst (aCons (aC (.str ("store" : Str))) aNil)) (aLc (aiSeq (aVar 1)) (.nm 7) [7] aYes (aFn acStr (aCons (aVar 7) aNil))))) aNil)) aNil)) (agName 4)) (tk_law_rows_2)
def t_law_rows : RS := aSeq (aAsg (aVar 0) (agTup 3 (agCons (agName 1) (agCons (agName 2) (agCons (agName 3) agNil))))) (tk_law_rows_1)
theorem len_law_rows : ∀ ds M Q, sp_law_rows ds M Q → ds.length = 1 := by
  rintro ds M Q ⟨b, rfl, _⟩
  rfl
theorem spec_law_rows : ∀ ds M Q, sp_law_rows ds M Q → t_law_rows (retD Q) (startA 9 ds) M := by
  rintro ds M Q ⟨s, rfl, ok, jl, k⟩
  have sz := size_head ok.head
  have many := ok.many_le
  have z2 := ok.head.size2
  have r2 := ok.head.rows2
  have nts := nt_okS ok.s (by omega)
  show t_law_rows (retD Q) (startA 9 [.tup [.tup (hdNs s.head |>.map fun n => dn n), .tup (s.disks.map kD), .tup (s.journal.map nD)]]) M
  have hO := hd_ok ok.head
  have hL : (hdNs s.head).length = 6 := rfl
  have eH : ([("store" : Str)] ++ (hdNs s.head).map fun (x : Nat) => strI (x : Int)) = [("store" : Str), strI s.head.par, strI s.head.size, strI s.head.rows, strI s.head.width, strI s.head.moved, strI s.head.spares] := rfl
  obtain ⟨ns, hns⟩ : ∃ ns, ns = hdNs s.head := ⟨_, rfl⟩
  rw [← hns] at hO hL eH ⊢
  have pB : Pl 9 (Dv.str ("block" : Str)) := by show PyData.canLay0 (.str ("block" : Str)) = true; decide +kernel
  have pE : Pl 9 (Dv.str ("end" : Str)) := by show PyData.canLay0 (.str ("end" : Str)) = true; decide +kernel
  have no : ¬ Dv.str ("block" : Str) = Dv.str ("end" : Str) := fun e => by injection e with e; exact absurd e (by decide +kernel)
  decreasing_tactic
  refine ⟨rfl, ?_⟩
  decreasing_tactic
  intro D hD
  have lD : mup M D (.lst [.str ("store" : Str)]) D = some (.lst [.str ("store" : Str)]) := mup_same
  have s1 : HC.Sub M (mup M D (.lst [.str ("store" : Str)])) := HC.Sub.new hD
  generalize mup M D (.lst [.str ("store" : Str)]) = M1 at lD s1 ⊢
  decreasing_tactic
  intro E hE
  refine lcW_inv (fun i M' => M' = mup M1 E (.lst ((ns.take i).map fun (x : Nat) => Dv.str (strI (x : Int))))) rfl (fun _ _ _ _ => rfl) ?_ ?_
  · rintro i d M' hi rfl
    rw [List.getElem?_map] at hi
    obtain ⟨x, ho, rfl⟩ := Option.map_eq_some_iff.mp hi
    have et : ns.take (i + 1) = ns.take i ++ [x] := by rw [List.take_add_one, ho]; rfl
    have lt : (ns.take i).length ≤ 6 := Nat.le_trans (List.length_take_le' _ _) (by omega)
    have lx := log_num (hO x (List.mem_of_getElem? ho))
    refine ⟨_, rfl, ?_⟩
    decreasing_tactic
    refine ⟨_, mup_same, lt_line (by rw [List.length_map]; omega), _, HC.Sub.refl _, ?_⟩
    rw [mup_mup, et, List.map_append]
    rfl
  rintro M' rfl
  rw [List.length_map, List.take_length]
  have lD2 := look_new (x := .lst (ns.map fun (x : Nat) => Dv.str (strI (x : Int)))) lD hE
  have lE : mup M1 E (.lst (ns.map fun (x : Nat) => Dv.str (strI (x : Int)))) E = some (.lst (ns.map fun (x : Nat) => Dv.str (strI (x : Int)))) := mup_same
  have s2 : HC.Sub M (mup M1 E (.lst (ns.map fun (x : Nat) => Dv.str (strI (x : Int))))) := s1.trans (HC.Sub.new hE)
  generalize mup M1 E (.lst (ns.map fun (x : Nat) => Dv.str (strI (x : Int)))) = M2 at lD2 lE s2 ⊢
  have b24 : (ns.map fun (x : Nat) => Dv.str (strI (x : Int))).length ≤ 6 := by rw [List.length_map]; omega
  decreasing_tactic
  refine ⟨_, _, lD2, lE, le_line (show 1 + _ ≤ 1000000 by omega), fun G hG => fz_new hG ?_⟩
  decreasing_tactic
  refine ⟨[("store" : Str)] ++ ns.map fun (x : Nat) => strI (x : Int), by rw [List.map_append, List.map_map]; rfl, by rw [eH]; exact Nat.le_trans sz (by decide), ?_⟩
  rw [eH, show Txt.join (" " : Str) [("store" : Str), strI s.head.par, strI s.head.size, strI s.head.rows, strI s.head.width, strI s.head.moved, strI s.head.spares] = headT s.head from rfl]
  clear lD2 lE lD s1 hE hD b24
  decreasing_tactic
  intro R hR
  have RM : M R = none := by
    cases e : M R with
    | none => rfl
    | some c => have := s2 _ _ e; rw [hR] at this; cases this
  have putR : ∀ (Mx : Ms) (c : Cell), HC.Sub M Mx → HC.Sub M (mup Mx R c) := fun Mx c h a d e => by
    rw [mup_ne (ne_of_new e RM)]
    exact h _ _ e
  have lR : mup M2 R (.lst [.str (headT s.head)]) R = some (.lst [.str (headT s.head)]) := mup_same
  have s3 : HC.Sub M (mup M2 R (.lst [.str (headT s.head)])) := s2.trans (HC.Sub.new hR)
  generalize mup M2 R (.lst [.str (headT s.head)]) = M3 at lR s3 ⊢
  clear s2 hR
  obtain ⟨st, hst⟩ : ∃ st : Dv, st = .tup [.tup (ns.map fun n => dn n), .tup (s.disks.map kD), .tup (s.journal.map nD)] := ⟨_, rfl⟩
  decreasing_tactic
  refine forW_inv (fun i ρ M' => ∃ x5 x6 x7 x8, ρ = [some (.tup [.tup (ns.map fun n => dn n), .tup (s.disks.map kD), .tup (s.journal.map nD)]), some (.tup (ns.map fun n => dn n)), some (.tup (s.disks.map kD)), some (.tup (s.journal.map nD)), some (.ref R), x5, x6, x7, x8] ∧ HC.Sub M M' ∧ M' R = some (.lst ((headT s.head :: (s.disks.take i).map diskT).map Dv.str))) ⟨none, none, none, none, rfl, s3, lR⟩ (fun _ _ _ _ _ => rfl) ?_ ?_
  · clear s3 lR
    rintro i d ρ M4 hi ⟨x5, x6, x7, x8, rfl, s4, lR4⟩
    rw [List.getElem?_map] at hi
    obtain ⟨kd, hk, rfl⟩ := Option.map_eq_some_iff.mp hi
    have et : s.disks.take (i + 1) = s.disks.take i ++ [kd] := by rw [List.take_add_one, hk]; rfl
    have lt : (s.disks.take i).length ≤ 11 := Nat.le_trans (List.length_take_le' _ _) (by omega)
    have km := List.mem_of_getElem? hk
    have eT : (headT s.head :: (s.disks.take (i + 1)).map diskT).map Dv.str = ((headT s.head :: (s.disks.take i).map diskT).map Dv.str) ++ [Dv.str (diskT kd)] := by rw [et]; simp
    have lX : ((headT s.head :: (s.disks.take i).map diskT).map Dv.str).length ≤ 12 := by simp; omega
    generalize (headT s.head :: (s.disks.take i).map diskT).map Dv.str = X at lR4 eT lX
    have lX2 : X.length < sizeLine := lt_line (by omega)
    cases kd with
    | none =>
      decreasing_tactic
      ((repeat ((conv => whnf); simp only [lenA_r, itemsA_r, lstA_r, lstC_s, Option.map_some, atI_0, ixN_0, mup_same, mup_mup, true_and, and_true, List.map_cons, List.map_nil, List.length_cons, List.length_map, List.length_nil, List.set_cons_zero, List.set_cons_succ, List.cons_append, List.nil_append, List.getElem?_cons_zero, List.getElem?_cons_succ, lR4])); (conv => whnf))
      exact wk_of ⟨_, _, _, _, rfl, putR _ _ s4, mup_same.trans (congrArg (fun z => some (Cell.lst z)) eT.symm)⟩
    | some bs =>
      obtain ⟨bl, bb⟩ := ok.disks _ km bs rfl
      have bw : ∀ o ∈ bs, ∀ b, o = some b → b.length ≤ 16 ∧ ∀ x ∈ b, x < 256 := fun o ho b hb => by
        obtain ⟨h1, h2⟩ := bb o ho b hb
        exact ⟨by rw [h1]; exact z2, h2⟩
      have szd := size_disk (bs := bs) (by omega) bw
      have bl24 : bs.length ≤ 24 := by omega
      decreasing_tactic
      refine ⟨rfl, ?_⟩
      decreasing_tactic
      intro D hD
      have lD : mup M4 D (.lst [.str ("disk" : Str)]) D = some (.lst [.str ("disk" : Str)]) := mup_same
      have lRa := look_new (x := .lst [.str ("disk" : Str)]) lR4 hD
      have sa : HC.Sub M (mup M4 D (.lst [.str ("disk" : Str)])) := s4.trans (HC.Sub.new hD)
      generalize mup M4 D (.lst [.str ("disk" : Str)]) = M5 at lD lRa sa ⊢
      decreasing_tactic
      intro E hE
      refine lcW_inv (fun j M' => M' = mup M5 E (.lst ((bs.take j).map fun o => Dv.str (oT o)))) rfl (fun _ _ _ _ => rfl) ?_ ?_
      · rintro j d M' hj rfl
        rw [List.getElem?_map] at hj
        obtain ⟨o, ho, rfl⟩ := Option.map_eq_some_iff.mp hj
        have et2 : bs.take (j + 1) = bs.take j ++ [o] := by rw [List.take_add_one, ho]; rfl
        have lt2 : (bs.take j).length ≤ 24 := Nat.le_trans (List.length_take_le' _ _) bl24
        refine ⟨_, rfl, ?_⟩
        decreasing_tactic
        refine ⟨o, rfl, bw o (List.mem_of_getElem? ho), ?_⟩
        decreasing_tactic
        refine ⟨_, mup_same, lt_line (by rw [List.length_map]; omega), _, HC.Sub.refl _, ?_⟩
        rw [mup_mup, et2, List.map_append]
        rfl
      rintro M' rfl
      rw [List.length_map, List.take_length]
      have lD2 := look_new (x := .lst (bs.map fun o => Dv.str (oT o))) lD hE
      have lRb := look_new (x := .lst (bs.map fun o => Dv.str (oT o))) lRa hE
      have lE : mup M5 E (.lst (bs.map fun o => Dv.str (oT o))) E = some (.lst (bs.map fun o => Dv.str (oT o))) := mup_same
      have sb : HC.Sub M (mup M5 E (.lst (bs.map fun o => Dv.str (oT o)))) := sa.trans (HC.Sub.new hE)
      generalize mup M5 E (.lst (bs.map fun o => Dv.str (oT o))) = M6 at lD2 lE lRb sb ⊢
      have b25 : (bs.map fun o => Dv.str (oT o)).length ≤ 24 := by rw [List.length_map]; exact bl24
      decreasing_tactic
      refine ⟨_, _, lD2, lE, le_line (show 1 + _ ≤ 1000000 by omega), fun G hG => fz_new hG ?_⟩
      decreasing_tactic
      refine ⟨("disk" : Str) :: bs.map oT, by rw [List.map_cons, List.map_map]; rfl, Nat.le_trans szd (by decide), ?_⟩
      rw [show Txt.join (" " : Str) (("disk" : Str) :: bs.map oT) = diskT (some bs) from rfl]
      decreasing_tactic
      ((repeat ((conv => whnf); simp only [lenA_r, itemsA_r, lstA_r, lstC_s, Option.map_some, atI_0, ixN_0, mup_same, mup_mup, true_and, and_true, List.map_cons, List.map_nil, List.length_cons, List.length_map, List.length_nil, List.set_cons_zero, List.set_cons_succ, List.cons_append, List.nil_append, List.getElem?_cons_zero, List.getElem?_cons_succ, lRb])); (conv => whnf))
      exact wk_of ⟨_, _, _, _, rfl, putR _ _ sb, mup_same.trans (congrArg (fun z => some (Cell.lst z)) eT.symm)⟩
  · clear s3 lR
    rintro ρ M4 ⟨x5, x6, x7, x8, rfl, s4, lR4⟩
    rw [List.length_map, List.take_length] at lR4
    decreasing_tactic
    refine forW_inv (fun i ρ M' => ∃ x5 x6 x7 x8, ρ = [some (.tup [.tup (ns.map fun n => dn n), .tup (s.disks.map kD), .tup (s.journal.map nD)]), some (.tup (ns.map fun n => dn n)), some (.tup (s.disks.map kD)), some (.tup (s.journal.map nD)), some (.ref R), x5, x6, x7, x8] ∧ HC.Sub M M' ∧ M' R = some (.lst ((headT s.head :: (s.disks.map diskT ++ (s.journal.take i).map noteT)).map Dv.str))) ⟨x5, x6, x7, x8, rfl, s4, by rw [List.take_zero, List.map_nil, List.append_nil]; exact lR4⟩ (fun _ _ _ _ _ => rfl) ?_ ?_
    · clear s4 lR4
      rintro i d ρ M4 hi ⟨x5, x6, x7, x8, rfl, s4, lR4⟩
      rw [List.getElem?_map] at hi
      obtain ⟨nt, hk, rfl⟩ := Option.map_eq_some_iff.mp hi
      have et : s.journal.take (i + 1) = s.journal.take i ++ [nt] := by rw [List.take_add_one, hk]; rfl
      have lt : (s.journal.take i).length ≤ 20 := Nat.le_trans (List.length_take_le' _ _) (by omega)
      have nok := nts nt (List.mem_of_getElem? hk)
      have eT : (headT s.head :: (s.disks.map diskT ++ (s.journal.take (i + 1)).map noteT)).map Dv.str = ((headT s.head :: (s.disks.map diskT ++ (s.journal.take i).map noteT)).map Dv.str) ++ [Dv.str (noteT nt)] := by rw [et]; simp
      have dl : s.disks.length ≤ 11 := by omega
      have lX : ((headT s.head :: (s.disks.map diskT ++ (s.journal.take i).map noteT)).map Dv.str).length ≤ 40 := by simp; omega
      generalize (headT s.head :: (s.disks.map diskT ++ (s.journal.take i).map noteT)).map Dv.str = X at lR4 eT lX
      have lX2 : X.length < sizeLine := lt_line (by omega)
      cases nt with
      | block d r b =>
        obtain ⟨o1, o2, o3, o4⟩ := nok
        have szn := size_note (d := d) (r := r) (b := b) o1 o2 o3
        have l1 := log_num o1
        have l2 := log_num o2
        have i3 : atI [Dv.str ("block" : Str), dn d, dn r, bD b] 3 = some (oD (some b)) := rfl
        decreasing_tactic
        refine ⟨rfl, ?_⟩
        decreasing_tactic
        refine ⟨some b, rfl, fun b' e => (by cases e; exact ⟨o3, o4⟩), ?_⟩
        decreasing_tactic
        refine ⟨[("note" : Str), strI d, strI r, blkT b], rfl, Nat.le_trans szn (by decide), ?_⟩
        rw [show Txt.join (" " : Str) [("note" : Str), strI d, strI r, blkT b] = noteT (.block d r b) from rfl]
        decreasing_tactic
        ((repeat ((conv => whnf); simp only [lenA_r, itemsA_r, lstA_r, lstC_s, Option.map_some, atI_0, ixN_0, mup_same, mup_mup, true_and, and_true, List.map_cons, List.map_nil, List.length_cons, List.length_map, List.length_nil, List.set_cons_zero, List.set_cons_succ, List.cons_append, List.nil_append, List.getElem?_cons_zero, List.getElem?_cons_succ, lR4])); (conv => whnf))
        exact wk_of ⟨_, _, _, _, rfl, putR _ _ s4, mup_same.trans (congrArg (fun z => some (Cell.lst z)) eT.symm)⟩
      | fin a w m =>
        obtain ⟨o1, o2, o3⟩ := nok
        have szn := size_end (a := a) (w := w) (m := m) o1 o2 o3
        have vL : ([a, w, m] : List Nat).length = 3 := rfl
        have vO : ∀ x ∈ [a, w, m], x < 10000000000 := fun x hx => by
          simp only [List.mem_cons, List.not_mem_nil, or_false] at hx
          rcases hx with rfl | rfl | rfl <;> assumption
        have cE : cutA [Dv.str ("end" : Str), dn a, dn w, dn m] (some 1) none = ([a, w, m] : List Nat).map fun n => dn n := rfl
        decreasing_tactic
        refine ⟨rfl, ?_⟩
        decreasing_tactic
        intro D hD
        have lD : mup M4 D (.lst [.str ("end" : Str)]) D = some (.lst [.str ("end" : Str)]) := mup_same
        have lRa := look_new (x := .lst [.str ("end" : Str)]) lR4 hD
        have sa : HC.Sub M (mup M4 D (.lst [.str ("end" : Str)])) := s4.trans (HC.Sub.new hD)
        generalize mup M4 D (.lst [.str ("end" : Str)]) = M5 at lD lRa sa ⊢
        decreasing_tactic
        rw [cE]
        decreasing_tactic
        intro E hE
        obtain ⟨vs, hvs⟩ : ∃ vs : List Nat, vs = [a, w, m] := ⟨_, rfl⟩
        rw [← hvs] at vL vO ⊢
        refine lcW_inv (fun i M' => M' = mup M5 E (.lst ((vs.take i).map fun (x : Nat) => Dv.str (strI (x : Int))))) rfl (fun _ _ _ _ => rfl) ?_ ?_
        · rintro i d M' hi rfl
          rw [List.getElem?_map] at hi
          obtain ⟨x, ho, rfl⟩ := Option.map_eq_some_iff.mp hi
          have et2 : vs.take (i + 1) = vs.take i ++ [x] := by rw [List.take_add_one, ho]; rfl
          have lt2 : (vs.take i).length ≤ 3 := Nat.le_trans (List.length_take_le' _ _) (by omega)
          have lx := log_num (vO x (List.mem_of_getElem? ho))
          refine ⟨_, rfl, ?_⟩
          decreasing_tactic
          refine ⟨_, mup_same, lt_line (by rw [List.length_map]; omega), _, HC.Sub.refl _, ?_⟩
          rw [mup_mup, et2, List.map_append]
          rfl
        rintro M' rfl
        rw [List.length_map, List.take_length]
        have lD2 := look_new (x := .lst (vs.map fun (x : Nat) => Dv.str (strI (x : Int)))) lD hE
        have lRb := look_new (x := .lst (vs.map fun (x : Nat) => Dv.str (strI (x : Int)))) lRa hE
        have lE : mup M5 E (.lst (vs.map fun (x : Nat) => Dv.str (strI (x : Int)))) E = some (.lst (vs.map fun (x : Nat) => Dv.str (strI (x : Int)))) := mup_same
        have sb : HC.Sub M (mup M5 E (.lst (vs.map fun (x : Nat) => Dv.str (strI (x : Int))))) := sa.trans (HC.Sub.new hE)
        generalize mup M5 E (.lst (vs.map fun (x : Nat) => Dv.str (strI (x : Int)))) = M6 at lD2 lE lRb sb ⊢
        have b25 : (vs.map fun (x : Nat) => Dv.str (strI (x : Int))).length ≤ 3 := by rw [List.length_map]; omega
        decreasing_tactic
        refine ⟨_, _, lD2, lE, le_line (show 1 + _ ≤ 1000000 by omega), fun G hG => fz_new hG ?_⟩
        decreasing_tactic
        refine ⟨[("end" : Str), strI a, strI w, strI m], by rw [hvs]; rfl, Nat.le_trans szn (by decide), ?_⟩
        rw [show Txt.join (" " : Str) [("end" : Str), strI a, strI w, strI m] = noteT (.fin a w m) from rfl]
        decreasing_tactic
        ((repeat ((conv => whnf); simp only [lenA_r, itemsA_r, lstA_r, lstC_s, Option.map_some, atI_0, ixN_0, mup_same, mup_mup, true_and, and_true, List.map_cons, List.map_nil, List.length_cons, List.length_map, List.length_nil, List.set_cons_zero, List.set_cons_succ, List.cons_append, List.nil_append, List.getElem?_cons_zero, List.getElem?_cons_succ, lRb])); (conv => whnf))
        exact wk_of ⟨_, _, _, _, rfl, putR _ _ sb, mup_same.trans (congrArg (fun z => some (Cell.lst z)) eT.symm)⟩
    · clear s4 lR4
      rintro ρ M4 ⟨x5, x6, x7, x8, rfl, s4, lR4⟩
      rw [List.length_map, List.take_length] at lR4
      decreasing_tactic
      exact ⟨M, RM, s4, retEnd k⟩
theorem ok_law_rows (T : Tx K mg) : FnA P w K mg base 2 T.f_law_rows T.d_law_rows [("_law_store" : Str)] sp_law_rows :=
  fnA T.F_law_rows sc_law_rows len_law_rows (fun cdv A outer s H E hr => by
    have hu1 := hu_of hr
    have hu64 := hr.units
    exact (ass_cons (as_asg (av 0) (ag_tup rfl (ags_cons (ag_name 1 sc_law_rows.nd) (ags_cons (ag_name 2 sc_law_rows.nd) (ags_cons (ag_name 3 sc_law_rows.nd) ags_nil)))))
    (ass_cons (as_set 4 sc_law_rows.nd (ae_lst (aa_cons (ae_join ae_str (aa_cons (ae_fz (ae_add (ae_lst (aa_cons ae_str aa_nil)) (ae_lc (own := [(("_law_one" : Str), 7)]) (tg := (.nm 7)) (by decide) rfl sc_law_rows.nd (ai_seq (av 1)) (blkOk_by (own := [(("_law_one" : Str), 7)]) (N := N_law_rows) (sc := defScope s_law_rows) (by decide +kernel)) (fun _ _ _ _ _ => (pgt_name 7 sc_law_rows.nd)) (fun _ _ _ _ _ => ats_nil) (fun _ _ _ _ _ => (ae_callTy call_str_int abc_str (aa_cons (av 7) aa_nil) T.n_str boot_str))))) aa_nil)) aa_nil)))
    (ass_cons (as_for PassesOwn.never rfl (ai_seq (av 2)) (ag_name 5 sc_law_rows.nd) (ass_one (as_if (at_is (av 5) ae_non) (ass_one (as_expr (ae_append (av 4) (aa_cons ae_str aa_nil)))) (ass_one (as_expr (ae_append (av 4) (aa_cons (ae_join ae_str (aa_cons (ae_fz (ae_add (ae_lst (aa_cons ae_str aa_nil)) (ae_lc (own := [(("_law_block_here" : Str), 8)]) (tg := (.nm 8)) (by decide) rfl sc_law_rows.nd (ai_seq (av 5)) (blkOk_by (own := [(("_law_block_here" : Str), 8)]) (N := N_law_rows) (sc := defScope s_law_rows) (by decide +kernel)) (fun _ _ _ _ _ => (pgt_name 8 sc_law_rows.nd)) (fun _ _ _ _ _ => ats_nil) (fun _ _ _ _ _ => (ae_call (ok_law_block_text T) (hr.mono (by decide)) T.m_law_block_text T.F_law_block_text.kp T.b_law_block_text (aa_cons (av 8) aa_nil)))))) aa_nil)) aa_nil)))))))
    (ass_cons (as_for PassesOwn.never rfl (ai_seq (av 3)) (ag_name 6 sc_law_rows.nd) (ass_one (as_if (at_eq hu64 (ae_ix hu1 (av 6) ae_int) ae_str) (ass_one (as_expr (ae_append (av 4) (aa_cons (ae_join ae_str (aa_cons (ae_fz (ae_add (ae_lst (aa_cons ae_str aa_nil)) (ae_lc (own := [(("_law_one" : Str), 7)]) (tg := (.nm 7)) (by decide) rfl sc_law_rows.nd (ai_seq (ae_fz (ae_slice (av 6) (ao_some ae_int) ao_none))) (blkOk_by (own := [(("_law_one" : Str), 7)]) (N := N_law_rows) (sc := defScope s_law_rows) (by decide +kernel)) (fun _ _ _ _ _ => (pgt_name 7 sc_law_rows.nd)) (fun _ _ _ _ _ => ats_nil) (fun _ _ _ _ _ => (ae_callTy call_str_int abc_str (aa_cons (av 7) aa_nil) T.n_str boot_str))))) aa_nil)) aa_nil)))) (ass_one (as_expr (ae_append (av 4) (aa_cons (ae_join ae_str (aa_cons (ae_fz (ae_lst (aa_cons ae_str (aa_cons (ae_callTy call_str_int abc_str (aa_cons (ae_ix hu1 (av 6) ae_int) aa_nil) T.n_str boot_str) (aa_cons (ae_callTy call_str_int abc_str (aa_cons (ae_ix hu1 (av 6) ae_int) aa_nil) T.n_str boot_str) (aa_cons (ae_call (ok_law_block_text T) (hr.mono (by decide)) T.m_law_block_text T.F_law_block_text.kp T.b_law_block_text (aa_cons (ae_ix hu1 (av 6) ae_int) aa_nil)) aa_nil)))))) aa_nil)) aa_nil)))))))
    (ass_one (as_ret (ae_fz (av 4))))))))) spec_law_rows
def sp_law : ASp := fun ds M Q => ∃ ns : List Int, ds = [.rol (ns.map Dv.int)] ∧ ns.length ≤ 63 ∧ ∀ M', Q (.bl true) M'
theorem law_true (ns : List Int) (h : ns.length ≤ 63) : sp_law [.rol (ns.map Dv.int)] (fun _ => none) (fun d _ => d = .bl true) := ⟨ns, rfl, h, fun _ => rfl⟩
def tk_law_9 : RS := (aRet (aOp aEq (aCall sp_read_store (aCons (aMth "str" amJoin (aC (.str ("\n" : Str))) (aCons (aVar 8) aNil)) aNil)) (aVar 7)))
def tk_law_8 : RS := aSeq (aFor (aiR1 (aCons (aOp aAdd (aC (.int 10)) (aFn acMin2 (aCons (aC (.int 30)) (aCons (aFn acLen (aCons (aVar 0) aNil)) aNil)))) aNil)) (agName 6) (aSeq (aAsg (aFn acLst (aCons (aVar 8) aNil)) (agName 9))
    (aSeq (aAsg (aFn acLen (aCons (aVar 8) aNil)) (agName 10))
    (aSeq (aFor (aiR1 (aCons (aOp aAdd (aC (.int 1)) (aCall sp_law_next (aCons (aVar 1) (aCons (aC (.int 3)) aNil)))) aNil)) (agName 11) (aSeq (aAsg (aCall sp_law_next (aCons (aVar 1) (aCons (aFn acLen (aCons (aVar 8) aNil)) aNil))) (agName 12))
    (aSeq (aAsg (aCall sp_law_bad_row (aCons (aVar 1) (aCons (aOp aIx (aVar 8) (aVar 12)) aNil))) (agSub (aVar 9) (aVar 12) asSet))
    (aAsg (aFn acMin2 (aCons (aVar 10) (aCons (aVar 12) aNil))) (agName 10)))))
    (aIfS (aB (aOp aNe (aCall sp_law_refused (aCons (aMth "str" amJoin (aC (.str ("\n" : Str))) (aCons (aVar 9) aNil)) aNil)) (aVar 10))) (aRet (aC (.bl false))) aNext))))) (tk_law_9)
def tk_law_7 : RS := aSeq (aIfS (aB (aOp aNe (aCall sp_read_store (aCons (aMth "str" amJoin (aC (.str ("\n" : Str))) (aCons (aVar 8) aNil)) aNil)) (aVar 7))) (aRet (aC (.bl false))) aNext) (tk_law_8)
def tk_law_6 : RS := aSeq (aAsg (aCall sp_law_rows (aCons (aVar 7) aNil)) (agName 8)) (tk_law_7)
def tk_law_5 : RS := aSeq (aAsg (aTup (aCons (aVar 2) (aCons (aVar 4) (aCons (aOp aAdd (aFn acTup (aCons (aVar 5) aNil)) (aTup (aCons (aTup (aCons (aC (.str ("end" : Str))) (aCons (aFn acLen (aCons (aVar 5) aNil)) (aCons (aVar 3) (aCons (aC (.int 0)) aNil))))) aNil))) aNil)))) (agName 7)) (tk_law_6)
def tk_law_4 : RS := aSeq (aFor (aiR1 (aCons (aOp aAdd (aC (.int 1)) (aCall sp_law_count (aCons (aVar 1) (aCons (aC (.int 3)) (aCons (aC (.int 9)) aNil))))) aNil)) (agName 6) (aDrop (aMth "list" amApp (aVar 5) (aCons (aTup (aCons (aC (.str ("block" : Str))) (aCons (aC (.int 0)) (aCons (aC (.int 0)) (aCons (aCall sp_law_block (aCons (aVar 1) (aCons (aOp aIx (aVar 2) (aC (.int 1))) aNil))) aNil))))) aNil)))) (tk_law_5)
def tk_law_3 : RS := aSeq (aAsg (aLst aNil) (agName 5)) (tk_law_4)
def tk_law_2 : RS := aSeq (aAsg (aFn acTup (aCons (aFz (aLc (aiR1 (aCons (aVar 3) aNil)) (.nm 6) [6] aYes (aCall sp_law_disk (aCons (aVar 1) (aCons (aVar 2) aNil))))) aNil)) (agName 4)) (tk_law_3)
def tk_law_1 : RS := aSeq (aAsg (aCall sp_law_head (aCons (aVar 1) aNil)) (agTup 2 (agCons (agName 2) (agCons (agName 3) agNil)))) (tk_law_2)
def t_law : RS := aSeq (aAsg (aCall sp_law_pot (aCons (aVar 0) aNil)) (agName 1)) (tk_law_1)
theorem len_law : ∀ ds M Q, sp_law ds M Q → ds.length = 1 := by
  rintro ds M Q ⟨ns, rfl, _⟩
  rfl
theorem spec_law : ∀ ds M Q, sp_law ds M Q → t_law (retD Q) (startA 13 ds) M := by
  rintro ds M Q ⟨ns, rfl, hl, k⟩
  have nsl : (ns.map Dv.int).length ≤ 63 := by rw [List.length_map]; exact hl
  decreasing_tactic
  refine ⟨ns, rfl, hl, fun p q M1 hd hs => ?_⟩
  decreasing_tactic
  refine ⟨p, q, rfl, hd, fun h many M2 d2 b2 hh => ?_⟩
  have wm := hh.many
  have w2 := hh.width2
  have m10 : many ≤ 10 := by rcases wm with z | z <;> omega
  have w1 := hh.width1
  have p1 := hh.par1
  decreasing_tactic
  intro D hD
  have DP := d2.nep hD
  have DQ := d2.neq hD
  refine lcW_inv (fun i M' => ∃ ks : List Disk, DPot p q M' ∧ M' D = some (.lst (ks.map kD)) ∧ ks.length = i ∧ ∀ k ∈ ks, DiskOk k h.size h.rows) ⟨[], d2.put DP DQ, mup_same, rfl, fun s hs => nomatch hs⟩ (fun _ _ _ _ => trivial) ?_ ?_
  · rintro i d M3 hi ⟨ks, d3, l3, sl, so⟩
    obtain ⟨hi2, rfl⟩ := rangeA_get hi
    refine ⟨_, rfl, ?_⟩
    decreasing_tactic
    refine ⟨p, q, h, many, rfl, d3, hh, fun kk M4 d4 b4 ok => ?_⟩
    have l4 := b4.at DP DQ l3
    decreasing_tactic
    refine ⟨_, l4, lt_line (by rw [List.length_map]; omega), _, HC.Sub.refl _, ks ++ [kk], d4.put DP DQ, by rw [mup_same]; simp, by simp [sl], fun z hz => ?_⟩
    rcases List.mem_append.mp hz with h3 | h3
    · exact so z h3
    · rw [List.mem_singleton.mp h3]; exact ok
  rintro M3 ⟨ks, d3, l3, sl, so⟩
  rw [rangeA_len] at sl
  clear hD hd hs d2 b2
  have kl : (ks.map kD).length = many := by rw [List.length_map]; omega
  have kl2 : ks.length = many := by omega
  decreasing_tactic
  refine ⟨mdel M3 D, mdel_same, mdel_sub, ?_⟩
  have d4 := d3.del DP DQ
  clear l3 d3 DP DQ
  generalize mdel M3 D = M4 at d4 ⊢
  decreasing_tactic
  intro R hR
  have RP := d4.nep hR
  have RQ := d4.neq hR
  have lR : mup M4 R (.lst []) R = some (.lst []) := mup_same
  have d5 : DPot p q (mup M4 R (.lst [])) := d4.put RP RQ
  generalize mup M4 R (.lst []) = M5 at lR d5 ⊢
  clear hR d4
  decreasing_tactic
  refine ⟨p, q, 3, 9, rfl, d5, by decide, by decide, by decide, by decide, fun cn M6 d6 b6 cl => ?_⟩
  have lR6 := b6.at RP RQ lR
  clear lR d5 b6
  have cl9 : cn ≤ 9 := by
    have : max (3 : Int) 9 = 9 := rfl
    omega
  have i1 : atI [dn h.par, dn h.size, dn h.rows, dn h.width, dn h.moved, dn h.spares] 1 = some (dn h.size) := rfl
  have z2 := hh.size2
  have eH : h.d = .tup [dn h.par, dn h.size, dn h.rows, dn h.width, dn h.moved, dn h.spares] := rfl
  decreasing_tactic
  refine forW_inv (fun i ρ M' => ∃ x6, ∃ bs : List Blk, ρ = [some (.rol (ns.map Dv.int)), some (.ref p), some h.d, some (dn many), some (.tup (ks.map kD)), some (.ref R), x6, none, none, none, none, none, none] ∧ DPot p q M' ∧ M' R = some (.lst ((bs.map fun b => Note.block 0 0 b).map nD)) ∧ bs.length = i ∧ ∀ b ∈ bs, BlkOk' b h.size) ⟨none, [], rfl, d6, lR6, rfl, fun b hb => nomatch hb⟩ (fun _ _ _ _ _ => trivial) ?_ ?_
  · clear d6 lR6
    rintro i d ρ M7 hi ⟨x6, bs, rfl, d7, lR7, bl, bo⟩
    obtain ⟨hi2, rfl⟩ := rangeA_get hi
    have nB : ((bs.map fun b => Note.block 0 0 b).map nD).length ≤ 20 := by rw [List.length_map, List.length_map]; omega
    rw [eH]
    decreasing_tactic
    ((repeat ((conv => whnf); simp only [lenA_r, itemsA_r, lstA_r, lstC_s, Option.map_some, atI_0, ixN_0, mup_same, mup_mup, true_and, and_true, List.map_cons, List.map_nil, List.length_cons, List.length_map, List.length_nil, List.set_cons_zero, List.set_cons_succ, List.cons_append, List.nil_append, List.getElem?_cons_zero, List.getElem?_cons_succ, i1])); (conv => whnf))
    refine ⟨p, q, h.size, rfl, d7, by omega, fun b M8 d8 b8 ok => ?_⟩
    have lR8 := b8.at RP RQ lR7
    decreasing_tactic
    ((repeat ((conv => whnf); simp only [lenA_r, itemsA_r, lstA_r, lstC_s, Option.map_some, atI_0, ixN_0, mup_same, mup_mup, true_and, and_true, List.map_cons, List.map_nil, List.length_cons, List.length_map, List.length_nil, List.set_cons_zero, List.set_cons_succ, List.cons_append, List.nil_append, List.getElem?_cons_zero, List.getElem?_cons_succ, lR8])); (conv => whnf))
    refine ⟨_, _, SubE.refl _, HC.Sub.refl _, _, bs ++ [b], rfl, d8.put RP RQ, ?_, by rw [List.length_append, bl]; rfl, fun x hx => ?_⟩
    · rw [mup_same, List.map_append, List.map_append]
      rfl
    · rcases List.mem_append.mp hx with z | z
      · exact bo x z
      · rw [List.mem_singleton.mp z]
        exact ok
  · rintro ρ M7 ⟨x6, bs, rfl, d7, lR7, bl, bo⟩
    rw [rangeA_len] at bl
    have bl10 : bs.length ≤ 10 := by omega
    have bl1 : 1 ≤ bs.length := by omega
    clear d6 lR6 bl
    have nB : ((bs.map fun b => Note.block 0 0 b).map nD).length = bs.length := by rw [List.length_map, List.length_map]
    decreasing_tactic
    have ok := stN_ok (bs := bs) (kl2 ▸ hh) so bo
    have oj := stN_j h ks bs
    have g := goodS ok (by omega)
    have rl := rows_len (stN h ks bs)
    have dl : (stN h ks bs).disks.length = many := kl2
    rw [← stN_d h ks bs kl2]
    clear nB so bo kl lR7
    generalize stN h ks bs = S at ok oj g rl dl ⊢
    refine ⟨S, rfl, ok, by omega, ?_⟩
    have szR : ((rowsT S).map (·.length)).sum + (rowsT S).length * ("\n" : Str).length ≤ 40000 ∧ (storeT S).length ≤ 50000 := by
      have h2 := sum_le (ys := rowsT S) (B := 900) fun y hy => (g.rows y hy).len
      have h3 : ("\n" : Str).length = 1 := by decide
      have j := join_le ("\n" : Str) (rowsT S)
      have j : (storeT S).length ≤ _ := j
      rw [h3] at j ⊢
      exact ⟨by omega, by omega⟩
    obtain ⟨sz1, sz2⟩ := szR
    have own := read_own ok g.hb g.hd g.hn
    have hA := asc_store S
    have pS : Pl 9 S.d := pl_store 5 _
    have nR : ((rowsT S).map Dv.str).length = (rowsT S).length := List.length_map _
    decreasing_tactic
    refine ⟨rfl, ?_⟩
    decreasing_tactic
    refine ⟨rowsT S, rfl, Nat.le_trans sz1 (by decide), ?_⟩
    decreasing_tactic
    refine ⟨storeT S, drS S, rfl, hA, sz2, own, ?_⟩
    rw [whole_drS]
    decreasing_tactic
    have rl30 : (rowsT S).length ≤ 30 := by omega
    have rl1 : 1 ≤ (rowsT S).length := by omega
    refine forW_inv (fun i ρ M' => ∃ x6 x9 x10 x11 x12, ρ = [some (.rol (ns.map Dv.int)), some (.ref p), some h.d, some (dn many), some (.tup (ks.map kD)), some (.ref R), x6, some S.d, some (.rol ((rowsT S).map Dv.str)), x9, x10, x11, x12] ∧ DPot p q M') ⟨_, none, none, none, none, rfl, d7⟩ (fun _ _ _ _ _ => trivial) ?_ ?_
    · rintro i d ρ M8 hi ⟨x6, x9, x10, x11, x12, rfl, d8⟩
      decreasing_tactic
      intro A hA0
      have AP := d8.nep hA0
      have AQ := d8.neq hA0
      have lA : mup M8 A (.lst ((rowsT S).map Dv.str)) A = some (.lst ((rowsT S).map Dv.str)) := mup_same
      have dA : DPot p q (mup M8 A (.lst ((rowsT S).map Dv.str))) := d8.put AP AQ
      generalize mup M8 A (.lst ((rowsT S).map Dv.str)) = M9 at lA dA ⊢
      decreasing_tactic
      refine ⟨p, q, _, rfl, dA, by decide, by decide, fun v Mv dv bv vl => ?_⟩
      have lV := bv.at AP AQ lA
      clear lA dA bv hA0
      decreasing_tactic
      refine forW_inv (fun i ρ M' => ∃ x11 x12, ∃ (made : List Str) (due : Nat), ρ = [some (.rol (ns.map Dv.int)), some (.ref p), some h.d, some (dn many), some (.tup (ks.map kD)), some (.ref R), some d, some S.d, some (.rol ((rowsT S).map Dv.str)), some (.ref A), some (.int (due : Int)), x11, x12] ∧ DPot p q M' ∧ M' A = some (.lst (made.map Dv.str)) ∧ MadeR (rowsT S) made due ∧ (0 < i → due < (rowsT S).length)) ?_ (fun _ _ _ _ _ => trivial) ?_ ?_
      · refine ⟨x11, x12, rowsT S, (rowsT S).length, ?_, dv, lV, ⟨rfl, Nat.le_refl _, fun _ _ => rfl, fun z => by omega, fun r hr => ⟨(g.rows r hr).ln, (g.rows r hr).asc, Nat.le_trans (g.rows r hr).len (by decide)⟩⟩, fun z => by omega⟩
        rw [List.length_map]
        rfl
      · rintro j d2 ρ Mj hj ⟨x11, x12, made, due, rfl, dj, lj, mr, md⟩
        decreasing_tactic
        refine ⟨p, q, _, rfl, dj, by omega, by omega, fun at' Ma da ba al => ?_⟩
        have la := ba.at AP AQ lj
        have aR : at' < (rowsT S).length := by omega
        have er : (rowsT S)[at']? = some (rowsT S)[at'] := List.getElem?_eq_getElem aR
        obtain ⟨W, eW, kW⟩ := g.kind er
        have ia : atI ((rowsT S).map Dv.str) (at' : Int) = some (.str (Txt.join (" " : Str) W)) := HC.atI_nat (by rw [List.getElem?_map, er, eW]; rfl)
        have ml := mr.len
        have mL : (made.map Dv.str).length = (rowsT S).length := by rw [List.length_map]; exact ml
        have ix : ixN (rowsT S).length (at' : Int) = some at' := ixN_nat aR
        have st : ∀ (i : Nat) (x : Str), (made.map Dv.str).set i (.str x) = (made.set i x).map Dv.str := fun i x => by rw [List.map_set]
        ((repeat ((conv => whnf); simp only [lenA_r, itemsA_r, lstA_r, lstC_s, Option.map_some, atI_0, ixN_0, mup_same, mup_mup, true_and, and_true, List.map_cons, List.map_nil, List.length_cons, List.length_map, List.length_nil, List.set_cons_zero, List.set_cons_succ, List.cons_append, List.nil_append, List.getElem?_cons_zero, List.getElem?_cons_succ, ia])); (conv => whnf))
        refine ⟨p, q, decide (at' = 0), W, rfl, da, kW, fun r2 Mb db bb br => ?_⟩
        have lb := bb.at AP AQ la
        ((repeat ((conv => whnf); simp only [lenA_r, itemsA_r, lstA_r, lstC_s, Option.map_some, atI_0, ixN_0, mup_same, mup_mup, true_and, and_true, List.map_cons, List.map_nil, List.length_cons, List.length_map, List.length_nil, List.set_cons_zero, List.set_cons_succ, List.cons_append, List.nil_append, List.getElem?_cons_zero, List.getElem?_cons_succ, lb, ml, ix])); (conv => whnf))
        rw [st]
        have em : (if (at' : Int) < (due : Int) then (at' : Int) else (due : Int)) = ((min due at' : Nat) : Int) := by split <;> omega
        rw [em]
        exact ⟨_, _, SubE.refl _, HC.Sub.refl _, _, _, made.set at' r2, min due at', rfl, db.put AP AQ, mup_same, mr.put aR br, fun _ => by omega⟩
      · rintro ρ Mj ⟨x11, x12, made, due, rfl, dj, lj, mr, md⟩
        rw [rangeA_len] at md
        have md := md (by omega)
        obtain ⟨y1, y2, y3⟩ := mr.size rl30
        have rd := mr.read g md
        decreasing_tactic
        refine ⟨rfl, ?_⟩
        ((repeat ((conv => whnf); simp only [lenA_r, itemsA_r, lstA_r, lstC_s, Option.map_some, atI_0, ixN_0, mup_same, mup_mup, true_and, and_true, List.map_cons, List.map_nil, List.length_cons, List.length_map, List.length_nil, List.set_cons_zero, List.set_cons_succ, List.cons_append, List.nil_append, List.getElem?_cons_zero, List.getElem?_cons_succ, lj])); (conv => whnf))
        refine ⟨made, rfl, Nat.le_trans y1 (by decide), ?_⟩
        decreasing_tactic
        refine ⟨_, rfl, y3, y2, .inl ⟨due, rd, ?_⟩⟩
        decreasing_tactic
        exact wk_of ⟨_, _, _, _, _, rfl, dj⟩
    · rintro ρ M8 ⟨x6, x9, x10, x11, x12, rfl, d8⟩
      decreasing_tactic
      refine ⟨rfl, ?_⟩
      decreasing_tactic
      refine ⟨rowsT S, rfl, Nat.le_trans sz1 (by decide), ?_⟩
      decreasing_tactic
      refine ⟨storeT S, drS S, rfl, hA, sz2, own, ?_⟩
      rw [whole_drS]
      decreasing_tactic
      rw [dec_T rfl]
      exact retEnd (k _)
theorem ok_law (T : Tx K mg) : FnA P w K mg base 9 T.f_law T.d_law [("_law_script" : Str)] sp_law :=
  fnA T.F_law sc_law len_law (fun cdv A outer s H E hr => by
    have hu1 := hu_of hr
    have hu64 := hr.units
    exact (ass_cons (as_set 1 sc_law.nd (ae_call (ok_law_pot T) (hr.mono (by decide)) T.m_law_pot T.F_law_pot.kp T.b_law_pot (aa_cons (av 0) aa_nil)))
    (ass_cons (as_asg (ae_call (ok_law_head T) (hr.mono (by decide)) T.m_law_head T.F_law_head.kp T.b_law_head (aa_cons (av 1) aa_nil)) (ag_tup rfl (ags_cons (ag_name 2 sc_law.nd) (ags_cons (ag_name 3 sc_law.nd) ags_nil))))
    (ass_cons (as_set 4 sc_law.nd (ae_callTy call_tuple_of abc_tup (aa_cons (ae_fz (ae_lc (own := [(("_law_k" : Str), 6)]) (tg := (.nm 6)) (by decide) rfl sc_law.nd (ai_range1 T.n_range (aa_cons (av 3) aa_nil)) (blkOk_by (own := [(("_law_k" : Str), 6)]) (N := N_law) (sc := defScope s_law) (by decide +kernel)) (fun _ _ _ _ _ => (pgt_name 6 sc_law.nd)) (fun _ _ _ _ _ => ats_nil) (fun _ _ _ _ _ => (ae_call (ok_law_disk T) (hr.mono (by decide)) T.m_law_disk T.F_law_disk.kp T.b_law_disk (aa_cons (av 1) (aa_cons (av 2) aa_nil)))))) aa_nil) T.n_tuple boot_tuple))
    (ass_cons (as_set 5 sc_law.nd (ae_lst aa_nil))
    (ass_cons (as_for PassesOwn.never rfl (ai_range1 T.n_range (aa_cons (ae_add ae_int (ae_call (ok_law_count T) (hr.mono (by decide)) T.m_law_count T.F_law_count.kp T.b_law_count (aa_cons (av 1) (aa_cons ae_int (aa_cons ae_int aa_nil))))) aa_nil)) (ag_name 6 sc_law.nd) (ass_one (as_expr (ae_append (av 5) (aa_cons (ae_tup (aa_cons ae_str (aa_cons ae_int (aa_cons ae_int (aa_cons (ae_call (ok_law_block T) (hr.mono (by decide)) T.m_law_block T.F_law_block.kp T.b_law_block (aa_cons (av 1) (aa_cons (ae_ix hu1 (av 2) ae_int) aa_nil))) aa_nil))))) aa_nil)))))
    (ass_cons (as_set 7 sc_law.nd (ae_tup (aa_cons (av 2) (aa_cons (av 4) (aa_cons (ae_add (ae_callTy call_tuple_of abc_tup (aa_cons (av 5) aa_nil) T.n_tuple boot_tuple) (ae_tup (aa_cons (ae_tup (aa_cons ae_str (aa_cons (ae_callB call_len abc_len (aa_cons (av 5) aa_nil) T.n_len boot_len) (aa_cons (av 3) (aa_cons ae_int aa_nil))))) aa_nil))) aa_nil)))))
    (ass_cons (as_set 8 sc_law.nd (ae_call (ok_law_rows T) (hr.mono (by decide)) T.m_law_rows T.F_law_rows.kp T.b_law_rows (aa_cons (av 7) aa_nil)))
    (ass_cons (as_if (at_ne hu64 (ae_call (ok_read_store T) (hr.mono (by decide)) T.m_read_store T.F_read_store.kp T.b_read_store (aa_cons (ae_join ae_str (aa_cons (av 8) aa_nil)) aa_nil)) (av 7)) (ass_one (as_ret ae_bl)) ass_nil)
    (ass_cons (as_for PassesOwn.never rfl (ai_range1 T.n_range (aa_cons (ae_add ae_int (ae_callB (call_min2 rfl) abc_min2 (aa_cons ae_int (aa_cons (ae_callB call_len abc_len (aa_cons (av 0) aa_nil) T.n_len boot_len) aa_nil)) T.n_min boot_min)) aa_nil)) (ag_name 6 sc_law.nd) (ass_cons (as_set 9 sc_law.nd (ae_callTy call_list_of abc_lst (aa_cons (av 8) aa_nil) T.n_list boot_list))
    (ass_cons (as_set 10 sc_law.nd (ae_callB call_len abc_len (aa_cons (av 8) aa_nil) T.n_len boot_len))
    (ass_cons (as_for PassesOwn.never rfl (ai_range1 T.n_range (aa_cons (ae_add ae_int (ae_call (ok_law_next T) (hr.mono (by decide)) T.m_law_next T.F_law_next.kp T.b_law_next (aa_cons (av 1) (aa_cons ae_int aa_nil)))) aa_nil)) (ag_name 11 sc_law.nd) (ass_cons (as_set 12 sc_law.nd (ae_call (ok_law_next T) (hr.mono (by decide)) T.m_law_next T.F_law_next.kp T.b_law_next (aa_cons (av 1) (aa_cons (ae_callB call_len abc_len (aa_cons (av 8) aa_nil) T.n_len boot_len) aa_nil))))
    (ass_cons (as_asg (ae_call (ok_law_bad_row T) (hr.mono (by decide)) T.m_law_bad_row T.F_law_bad_row.kp T.b_law_bad_row (aa_cons (av 1) (aa_cons (ae_ix hu1 (av 8) (av 12)) aa_nil))) (ag_sub hu1 (av 9) (av 12)))
    (ass_one (as_set 10 sc_law.nd (ae_callB (call_min2 rfl) abc_min2 (aa_cons (av 10) (aa_cons (av 12) aa_nil)) T.n_min boot_min))))))
    (ass_one (as_if (at_ne hu64 (ae_call (ok_law_refused T) (hr.mono (by decide)) T.m_law_refused T.F_law_refused.kp T.b_law_refused (aa_cons (ae_join ae_str (aa_cons (av 9) aa_nil)) aa_nil)) (av 10)) (ass_one (as_ret ae_bl)) ass_nil))))))
    (ass_one (as_ret (ae_eq hu64 (ae_call (ok_read_store T) (hr.mono (by decide)) T.m_read_store T.F_read_store.kp T.b_read_store (aa_cons (ae_join ae_str (aa_cons (av 8) aa_nil)) aa_nil)) (av 7)))))))))))))) spec_law
end Law
namespace Law
open PySem L2 HC PyProof.Rows
set_option maxHeartbeats 4000000
theorem facts {l : PySem.W.OpenLaw} {w : World} {K : PySem.W.Frag} {h : Heap} {mg : Str → Option Value} {fa : Addr} (X : K.In h) (G : h.Ns mainGlobals mg) (hfa : mg "law" = some (.ref fa)) (c : SaysY faL fnL tsL exL w K) :
    ∃ fd : FuncData, (∀ (s : Shared) (v : Value), BindsTo s fd ⟨[v], []⟩ [(("_law_script" : Str), v)]) ∧ ∀ base : Heap, K.In base → base.Ns mainGlobals mg → FnA l.prog w K mg base 9 fa fd [("_law_script" : Str)] sp_law := by
  obtain ⟨d0, F0⟩ := c.fn_ 0 (x := ("_law_next" : Str)) (st := s_law_next)
  obtain ⟨d1, F1⟩ := c.fn_ 1 (x := ("_law_one_of" : Str)) (st := s_law_one_of)
  obtain ⟨d2, F2⟩ := c.fn_ 2 (x := ("_law_bad_block" : Str)) (st := s_law_bad_block)
  obtain ⟨d3, F3⟩ := c.fn_ 3 (x := ("_law_bad_number" : Str)) (st := s_law_bad_number)
  obtain ⟨d4, F4⟩ := c.fn_ 4 (x := ("_law_bad_row" : Str)) (st := s_law_bad_row)
  obtain ⟨d5, F5⟩ := c.fn_ 5 (x := ("_law_block" : Str)) (st := s_law_block)
  obtain ⟨d6, F6⟩ := c.fn_ 6 (x := ("_law_count" : Str)) (st := s_law_count)
  obtain ⟨d7, F7⟩ := c.fn_ 7 (x := ("_law_disk" : Str)) (st := s_law_disk)
  obtain ⟨d8, F8⟩ := c.fn_ 8 (x := ("_law_head" : Str)) (st := s_law_head)
  obtain ⟨d9, F9⟩ := c.fn_ 9 (x := ("_law_pot" : Str)) (st := s_law_pot)
  obtain ⟨d10, F10⟩ := c.me_ 10 (x := ("Draft" : Str)) (m := ("__init__" : Str)) (q := ("Draft.__init__" : Str)) (st := s_Draft___init__)
  obtain ⟨d11, F11⟩ := c.fn_ 11 (x := ("block_in" : Str)) (st := s_block_in)
  obtain ⟨d12, F12⟩ := c.fn_ 12 (x := ("is_block_text" : Str)) (st := s_is_block_text)
  obtain ⟨d13, F13⟩ := c.me_ 13 (x := ("Draft" : Str)) (m := ("put_disk" : Str)) (q := ("Draft.put_disk" : Str)) (st := s_Draft_put_disk)
  obtain ⟨d14, F14⟩ := c.fn_ 14 (x := ("number_in" : Str)) (st := s_number_in)
  obtain ⟨d15, F15⟩ := c.fn_ 15 (x := ("numbers_in" : Str)) (st := s_numbers_in)
  obtain ⟨d16, F16⟩ := c.me_ 16 (x := ("Draft" : Str)) (m := ("put_head" : Str)) (q := ("Draft.put_head" : Str)) (st := s_Draft_put_head)
  obtain ⟨d17, F17⟩ := c.me_ 17 (x := ("Draft" : Str)) (m := ("put_note" : Str)) (q := ("Draft.put_note" : Str)) (st := s_Draft_put_note)
  obtain ⟨d18, F18⟩ := c.me_ 18 (x := ("Draft" : Str)) (m := ("put" : Str)) (q := ("Draft.put" : Str)) (st := s_Draft_put)
  obtain ⟨d19, F19⟩ := c.me_ 19 (x := ("Draft" : Str)) (m := ("whole" : Str)) (q := ("Draft.whole" : Str)) (st := s_Draft_whole)
  obtain ⟨d20, F20⟩ := c.fn_ 20 (x := ("is_whole" : Str)) (st := s_is_whole)
  obtain ⟨d21, F21⟩ := c.fn_ 21 (x := ("is_between" : Str)) (st := s_is_between)
  obtain ⟨d22, F22⟩ := c.fn_ 22 (x := ("is_block" : Str)) (st := s_is_block)
  obtain ⟨d23, F23⟩ := c.fn_ 23 (x := ("is_disk" : Str)) (st := s_is_disk)
  obtain ⟨d24, F24⟩ := c.fn_ 24 (x := ("are_widths" : Str)) (st := s_are_widths)
  obtain ⟨d25, F25⟩ := c.fn_ 25 (x := ("is_head" : Str)) (st := s_is_head)
  obtain ⟨d26, F26⟩ := c.fn_ 26 (x := ("is_note" : Str)) (st := s_is_note)
  obtain ⟨d27, F27⟩ := c.fn_ 27 (x := ("is_journal" : Str)) (st := s_is_journal)
  obtain ⟨d28, F28⟩ := c.fn_ 28 (x := ("is_store" : Str)) (st := s_is_store)
  obtain ⟨d29, F29⟩ := c.fn_ 29 (x := ("read_store" : Str)) (st := s_read_store)
  obtain ⟨d30, F30⟩ := c.fn_ 30 (x := ("_law_refused" : Str)) (st := s_law_refused)
  obtain ⟨d31, F31⟩ := c.fn_ 31 (x := ("_law_block_text" : Str)) (st := s_law_block_text)
  obtain ⟨d32, F32⟩ := c.fn_ 32 (x := ("_law_rows" : Str)) (st := s_law_rows)
  obtain ⟨d33, FD⟩ := c.law_ 33 (x := "law") (st := s_law)
  have F33 := fun_ofD FD
  obtain ⟨di_NoText, Fi_NoText⟩ := c.in_ 34 (x := ("NoText" : Str)) (q := ("NoText.__init__" : Str)) (st := si_NoText)
  have e := hfa.symm.trans (c.glo X G 0 (x := ("law" : Str)))
  cases e
  let T : Tx K mg := {
    n_ValueError := c.free X G 1 (x := ("ValueError" : Str))
    n_all := c.free X G 2 (x := ("all" : Str))
    n_bool := c.free X G 3 (x := ("bool" : Str))
    n_enumerate := c.free X G 4 (x := ("enumerate" : Str))
    n_int := c.free X G 5 (x := ("int" : Str))
    n_isinstance := c.free X G 6 (x := ("isinstance" : Str))
    n_len := c.free X G 7 (x := ("len" : Str))
    n_list := c.free X G 8 (x := ("list" : Str))
    n_min := c.free X G 9 (x := ("min" : Str))
    n_range := c.free X G 10 (x := ("range" : Str))
    n_str := c.free X G 11 (x := ("str" : Str))
    n_tuple := c.free X G 12 (x := ("tuple" : Str))
    n_zip := c.free X G 13 (x := ("zip" : Str))
    c_FIGURES := c.str X G 14 (x := ("FIGURES" : Str)) (z := ("0123456789abcdef" : Str))
    c_MOST_BYTE := c.int X G 15 (x := ("MOST_BYTE" : Str)) (k := 255)
    c_MOST_DISKS := c.int X G 16 (x := ("MOST_DISKS" : Str)) (k := 10)
    c_MOST_FIGURES := c.int X G 17 (x := ("MOST_FIGURES" : Str)) (k := 12)
    c_MOST_ROWS := c.int X G 18 (x := ("MOST_ROWS" : Str)) (k := 24)
    c_MOST_SIZE := c.int X G 19 (x := ("MOST_SIZE" : Str)) (k := 16)
    f_law_next := He.ga K ("_law_next" : Str), d_law_next := d0, F_law_next := F0, m_law_next := c.glo X G 20 (x := ("_law_next" : Str)), b_law_next := F0.binds (ps := [("_law_pot_here" : Str), ("_law_many" : Str)]) fun _ _ _ _ _ _ us hl => match us, hl with | [_, _], _ => rfl
    f_law_one_of := He.ga K ("_law_one_of" : Str), d_law_one_of := d1, F_law_one_of := F1, m_law_one_of := c.glo X G 21 (x := ("_law_one_of" : Str)), b_law_one_of := F1.binds (ps := [("_law_pot_here" : Str), ("_law_some" : Str)]) fun _ _ _ _ _ _ us hl => match us, hl with | [_, _], _ => rfl
    f_law_bad_block := He.ga K ("_law_bad_block" : Str), d_law_bad_block := d2, F_law_bad_block := F2, m_law_bad_block := c.glo X G 22 (x := ("_law_bad_block" : Str)), b_law_bad_block := F2.binds (ps := [("_law_pot_here" : Str)]) fun _ _ _ _ _ _ us hl => match us, hl with | [_], _ => rfl
    f_law_bad_number := He.ga K ("_law_bad_number" : Str), d_law_bad_number := d3, F_law_bad_number := F3, m_law_bad_number := c.glo X G 23 (x := ("_law_bad_number" : Str)), b_law_bad_number := F3.binds (ps := [("_law_pot_here" : Str)]) fun _ _ _ _ _ _ us hl => match us, hl with | [_], _ => rfl
    f_law_bad_row := He.ga K ("_law_bad_row" : Str), d_law_bad_row := d4, F_law_bad_row := F4, m_law_bad_row := c.glo X G 24 (x := ("_law_bad_row" : Str)), b_law_bad_row := F4.binds (ps := [("_law_pot_here" : Str), ("_law_row" : Str)]) fun _ _ _ _ _ _ us hl => match us, hl with | [_, _], _ => rfl
    f_law_block := He.ga K ("_law_block" : Str), d_law_block := d5, F_law_block := F5, m_law_block := c.glo X G 25 (x := ("_law_block" : Str)), b_law_block := F5.binds (ps := [("_law_pot_here" : Str), ("_law_size" : Str)]) fun _ _ _ _ _ _ us hl => match us, hl with | [_, _], _ => rfl
    f_law_count := He.ga K ("_law_count" : Str), d_law_count := d6, F_law_count := F6, m_law_count := c.glo X G 26 (x := ("_law_count" : Str)), b_law_count := F6.binds (ps := [("_law_pot_here" : Str), ("_law_most" : Str), ("_law_great" : Str)]) fun _ _ _ _ _ _ us hl => match us, hl with | [_, _, _], _ => rfl
    f_law_disk := He.ga K ("_law_disk" : Str), d_law_disk := d7, F_law_disk := F7, m_law_disk := c.glo X G 27 (x := ("_law_disk" : Str)), b_law_disk := F7.binds (ps := [("_law_pot_here" : Str), ("_law_head_here" : Str)]) fun _ _ _ _ _ _ us hl => match us, hl with | [_, _], _ => rfl
    f_law_head := He.ga K ("_law_head" : Str), d_law_head := d8, F_law_head := F8, m_law_head := c.glo X G 28 (x := ("_law_head" : Str)), b_law_head := F8.binds (ps := [("_law_pot_here" : Str)]) fun _ _ _ _ _ _ us hl => match us, hl with | [_], _ => rfl
    f_law_pot := He.ga K ("_law_pot" : Str), d_law_pot := d9, F_law_pot := F9, m_law_pot := c.glo X G 29 (x := ("_law_pot" : Str)), b_law_pot := F9.binds (ps := [("_law_script" : Str)]) fun _ _ _ _ _ _ us hl => match us, hl with | [_], _ => rfl
    f_Draft___init__ := He.ma K (He.ga K ("Draft" : Str)) ("__init__" : Str), d_Draft___init__ := d10, F_Draft___init__ := F10, b_Draft___init__ := F10.binds (ps := [("self" : Str)]) fun _ _ _ _ _ _ us hl => match us, hl with | [_], _ => rfl
    mk_Draft := He.mkr_ok (c.fact 30 (f := .mkr ("Draft" : Str)))
    f_block_in := He.ga K ("block_in" : Str), d_block_in := d11, F_block_in := F11, m_block_in := c.glo X G 31 (x := ("block_in" : Str)), b_block_in := F11.binds (ps := [("word" : Str)]) fun _ _ _ _ _ _ us hl => match us, hl with | [_], _ => rfl
    f_is_block_text := He.ga K ("is_block_text" : Str), d_is_block_text := d12, F_is_block_text := F12, m_is_block_text := c.glo X G 32 (x := ("is_block_text" : Str)), b_is_block_text := F12.binds (ps := [("word" : Str)]) fun _ _ _ _ _ _ us hl => match us, hl with | [_], _ => rfl
    f_Draft_put_disk := He.ma K (He.ga K ("Draft" : Str)) ("put_disk" : Str), d_Draft_put_disk := d13, F_Draft_put_disk := F13, b_Draft_put_disk := F13.binds (ps := [("self" : Str), ("words" : Str)]) fun _ _ _ _ _ _ us hl => match us, hl with | [_, _], _ => rfl
    me_Draft_put_disk := He.meth_ok (c.fact 33 (f := .meth ("Draft" : Str) ("put_disk" : Str)))
    f_number_in := He.ga K ("number_in" : Str), d_number_in := d14, F_number_in := F14, m_number_in := c.glo X G 34 (x := ("number_in" : Str)), b_number_in := F14.binds (ps := [("word" : Str)]) fun _ _ _ _ _ _ us hl => match us, hl with | [_], _ => rfl
    f_numbers_in := He.ga K ("numbers_in" : Str), d_numbers_in := d15, F_numbers_in := F15, m_numbers_in := c.glo X G 35 (x := ("numbers_in" : Str)), b_numbers_in := F15.binds (ps := [("words" : Str), ("many" : Str)]) fun _ _ _ _ _ _ us hl => match us, hl with | [_, _], _ => rfl
    f_Draft_put_head := He.ma K (He.ga K ("Draft" : Str)) ("put_head" : Str), d_Draft_put_head := d16, F_Draft_put_head := F16, b_Draft_put_head := F16.binds (ps := [("self" : Str), ("words" : Str)]) fun _ _ _ _ _ _ us hl => match us, hl with | [_, _], _ => rfl
    me_Draft_put_head := He.meth_ok (c.fact 36 (f := .meth ("Draft" : Str) ("put_head" : Str)))
    f_Draft_put_note := He.ma K (He.ga K ("Draft" : Str)) ("put_note" : Str), d_Draft_put_note := d17, F_Draft_put_note := F17, b_Draft_put_note := F17.binds (ps := [("self" : Str), ("words" : Str)]) fun _ _ _ _ _ _ us hl => match us, hl with | [_, _], _ => rfl
    me_Draft_put_note := He.meth_ok (c.fact 37 (f := .meth ("Draft" : Str) ("put_note" : Str)))
    f_Draft_put := He.ma K (He.ga K ("Draft" : Str)) ("put" : Str), d_Draft_put := d18, F_Draft_put := F18, b_Draft_put := F18.binds (ps := [("self" : Str), ("row" : Str)]) fun _ _ _ _ _ _ us hl => match us, hl with | [_, _], _ => rfl
    me_Draft_put := He.meth_ok (c.fact 38 (f := .meth ("Draft" : Str) ("put" : Str)))
    f_Draft_whole := He.ma K (He.ga K ("Draft" : Str)) ("whole" : Str), d_Draft_whole := d19, F_Draft_whole := F19, b_Draft_whole := F19.binds (ps := [("self" : Str)]) fun _ _ _ _ _ _ us hl => match us, hl with | [_], _ => rfl
    me_Draft_whole := He.meth_ok (c.fact 39 (f := .meth ("Draft" : Str) ("whole" : Str)))
    f_is_whole := He.ga K ("is_whole" : Str), d_is_whole := d20, F_is_whole := F20, m_is_whole := c.glo X G 40 (x := ("is_whole" : Str)), b_is_whole := F20.binds (ps := [("thing" : Str)]) fun _ _ _ _ _ _ us hl => match us, hl with | [_], _ => rfl
    f_is_between := He.ga K ("is_between" : Str), d_is_between := d21, F_is_between := F21, m_is_between := c.glo X G 41 (x := ("is_between" : Str)), b_is_between := F21.binds (ps := [("thing" : Str), ("low" : Str), ("high" : Str)]) fun _ _ _ _ _ _ us hl => match us, hl with | [_, _, _], _ => rfl
    f_is_block := He.ga K ("is_block" : Str), d_is_block := d22, F_is_block := F22, m_is_block := c.glo X G 42 (x := ("is_block" : Str)), b_is_block := F22.binds (ps := [("thing" : Str), ("size" : Str)]) fun _ _ _ _ _ _ us hl => match us, hl with | [_, _], _ => rfl
    f_is_disk := He.ga K ("is_disk" : Str), d_is_disk := d23, F_is_disk := F23, m_is_disk := c.glo X G 43 (x := ("is_disk" : Str)), b_is_disk := F23.binds (ps := [("thing" : Str), ("size" : Str), ("rows" : Str)]) fun _ _ _ _ _ _ us hl => match us, hl with | [_, _, _], _ => rfl
    f_are_widths := He.ga K ("are_widths" : Str), d_are_widths := d24, F_are_widths := F24, m_are_widths := c.glo X G 44 (x := ("are_widths" : Str)), b_are_widths := F24.binds (ps := [("width" : Str), ("moved" : Str), ("head" : Str), ("many" : Str)]) fun _ _ _ _ _ _ us hl => match us, hl with | [_, _, _, _], _ => rfl
    f_is_head := He.ga K ("is_head" : Str), d_is_head := d25, F_is_head := F25, m_is_head := c.glo X G 45 (x := ("is_head" : Str)), b_is_head := F25.binds (ps := [("thing" : Str), ("many" : Str)]) fun _ _ _ _ _ _ us hl => match us, hl with | [_, _], _ => rfl
    f_is_note := He.ga K ("is_note" : Str), d_is_note := d26, F_is_note := F26, m_is_note := c.glo X G 46 (x := ("is_note" : Str)), b_is_note := F26.binds (ps := [("thing" : Str), ("at" : Str), ("head" : Str), ("many" : Str)]) fun _ _ _ _ _ _ us hl => match us, hl with | [_, _, _, _], _ => rfl
    f_is_journal := He.ga K ("is_journal" : Str), d_is_journal := d27, F_is_journal := F27, m_is_journal := c.glo X G 47 (x := ("is_journal" : Str)), b_is_journal := F27.binds (ps := [("thing" : Str), ("head" : Str), ("many" : Str)]) fun _ _ _ _ _ _ us hl => match us, hl with | [_, _, _], _ => rfl
    f_is_store := He.ga K ("is_store" : Str), d_is_store := d28, F_is_store := F28, m_is_store := c.glo X G 48 (x := ("is_store" : Str)), b_is_store := F28.binds (ps := [("thing" : Str)]) fun _ _ _ _ _ _ us hl => match us, hl with | [_], _ => rfl
    f_read_store := He.ga K ("read_store" : Str), d_read_store := d29, F_read_store := F29, m_read_store := c.glo X G 49 (x := ("read_store" : Str)), b_read_store := F29.binds (ps := [("text" : Str)]) fun _ _ _ _ _ _ us hl => match us, hl with | [_], _ => rfl
    f_law_refused := He.ga K ("_law_refused" : Str), d_law_refused := d30, F_law_refused := F30, m_law_refused := c.glo X G 50 (x := ("_law_refused" : Str)), b_law_refused := F30.binds (ps := [("_law_text" : Str)]) fun _ _ _ _ _ _ us hl => match us, hl with | [_], _ => rfl
    f_law_block_text := He.ga K ("_law_block_text" : Str), d_law_block_text := d31, F_law_block_text := F31, m_law_block_text := c.glo X G 51 (x := ("_law_block_text" : Str)), b_law_block_text := F31.binds (ps := [("_law_block_here" : Str)]) fun _ _ _ _ _ _ us hl => match us, hl with | [_], _ => rfl
    f_law_rows := He.ga K ("_law_rows" : Str), d_law_rows := d32, F_law_rows := F32, m_law_rows := c.glo X G 52 (x := ("_law_rows" : Str)), b_law_rows := F32.binds (ps := [("_law_store" : Str)]) fun _ _ _ _ _ _ us hl => match us, hl with | [_], _ => rfl
    f_law := He.ga K ("law" : Str), d_law := d33, F_law := F33, m_law := c.glo X G 0 (x := ("law" : Str)), b_law := F33.binds (ps := [("_law_script" : Str)]) fun _ _ _ _ _ _ us hl => match us, hl with | [_], _ => rfl
    ck_Draft := He.ga K ("Draft" : Str), kl_Draft := ⟨c.gn 53 (x := ("Draft" : Str)), He.cls_ok (c.fact 54 (f := .cls ("Draft" : Str)))⟩, gk_Draft := c.glo X G 53 (x := ("Draft" : Str))
    no_Draft_disks := He.noat_ok (c.fact 55 (f := .noat ("Draft" : Str) ("disks" : Str)))
    no_Draft_head := He.noat_ok (c.fact 56 (f := .noat ("Draft" : Str) ("head" : Str)))
    no_Draft_notes := He.noat_ok (c.fact 57 (f := .noat ("Draft" : Str) ("notes" : Str)))
    ca_NoText := He.ga K ("NoText" : Str), na_NoText := c.gn 58 (x := ("NoText" : Str)), ga_NoText := c.glo X G 58 (x := ("NoText" : Str))
    oe_NoText := oexB_ok (c.at_ 0 (f := oexB ("NoText" : Str))), no_NoText := He.noat_ok (c.fact 59 (f := .noat ("NoText" : Str) "row"))
    fi_NoText := He.ma K (He.ga K ("NoText" : Str)) "__init__", fd_NoText := di_NoText, ic_NoText := (initB_ok (c.at_ 1 (f := initB ("NoText" : Str)))).1, ti_NoText := (initB_ok (c.at_ 1 (f := initB ("NoText" : Str)))).2
    Fi_NoText := Fi_NoText, bi_NoText := Fi_NoText.binds (ps := ["self", "row"]) fun _ _ _ _ _ _ us hl => match us, hl with | [_, _], _ => rfl
    xk_NoText := xckB_ok (c.at_ 2 (f := xckB ("NoText" : Str)))
    rw_NoText := ⟨xfcB_ok (c.at_ 3 (f := xfcB ("NoText" : Str))), He.noat_ok (c.fact 59 (f := .noat ("NoText" : Str) "row"))⟩
    k_NoText_Gone := kitQB_ok (y := (some ("Gone" : Str))) (c.at_ 4 (f := kitQB ("NoText" : Str) (some ("Gone" : Str)) false))
    k_NoText_Growing := kitQB_ok (y := (some ("Growing" : Str))) (c.at_ 5 (f := kitQB ("NoText" : Str) (some ("Growing" : Str)) false))
    k_NoText_Halfway := kitQB_ok (y := (some ("Halfway" : Str))) (c.at_ 6 (f := kitQB ("NoText" : Str) (some ("Halfway" : Str)) false))
    k_NoText_Lost := kitQB_ok (y := (some ("Lost" : Str))) (c.at_ 7 (f := kitQB ("NoText" : Str) (some ("Lost" : Str)) false))
    k_NoText_NoPlace := kitQB_ok (y := (some ("NoPlace" : Str))) (c.at_ 8 (f := kitQB ("NoText" : Str) (some ("NoPlace" : Str)) false))
    k_NoText_NoSpare := kitQB_ok (y := (some ("NoSpare" : Str))) (c.at_ 9 (f := kitQB ("NoText" : Str) (some ("NoSpare" : Str)) false))
    k_NoText_NoStore := kitQB_ok (y := (some ("NoStore" : Str))) (c.at_ 10 (f := kitQB ("NoText" : Str) (some ("NoStore" : Str)) false))
    k_NoText_NoText := kitQB_ok (y := (some ("NoText" : Str))) (c.at_ 11 (f := kitQB ("NoText" : Str) (some ("NoText" : Str)) true))
    k_NoText_NotGrowing := kitQB_ok (y := (some ("NotGrowing" : Str))) (c.at_ 12 (f := kitQB ("NoText" : Str) (some ("NotGrowing" : Str)) false))
    k_NoText_There := kitQB_ok (y := (some ("There" : Str))) (c.at_ 13 (f := kitQB ("NoText" : Str) (some ("There" : Str)) false))
    k_NoText_TooFew := kitQB_ok (y := (some ("TooFew" : Str))) (c.at_ 14 (f := kitQB ("NoText" : Str) (some ("TooFew" : Str)) false))
    k_NoText_Untold := kitQB_ok (y := (some ("Untold" : Str))) (c.at_ 15 (f := kitQB ("NoText" : Str) (some ("Untold" : Str)) false))
    k_NoText_ValueError := kitQB_ok (y := none) (c.at_ 16 (f := kitQB ("NoText" : Str) none true))
    e_NoText_DiskError := He.exm_ok (c.fact 60 (f := .exm ("NoText" : Str) ("DiskError" : Str) true))
    ca_Gone := He.ga K ("Gone" : Str), na_Gone := c.gn 61 (x := ("Gone" : Str)), ga_Gone := c.glo X G 61 (x := ("Gone" : Str))
    ca_Growing := He.ga K ("Growing" : Str), na_Growing := c.gn 62 (x := ("Growing" : Str)), ga_Growing := c.glo X G 62 (x := ("Growing" : Str))
    ca_Halfway := He.ga K ("Halfway" : Str), na_Halfway := c.gn 63 (x := ("Halfway" : Str)), ga_Halfway := c.glo X G 63 (x := ("Halfway" : Str))
    ca_Lost := He.ga K ("Lost" : Str), na_Lost := c.gn 64 (x := ("Lost" : Str)), ga_Lost := c.glo X G 64 (x := ("Lost" : Str))
    ca_NoPlace := He.ga K ("NoPlace" : Str), na_NoPlace := c.gn 65 (x := ("NoPlace" : Str)), ga_NoPlace := c.glo X G 65 (x := ("NoPlace" : Str))
    ca_NoSpare := He.ga K ("NoSpare" : Str), na_NoSpare := c.gn 66 (x := ("NoSpare" : Str)), ga_NoSpare := c.glo X G 66 (x := ("NoSpare" : Str))
    ca_NoStore := He.ga K ("NoStore" : Str), na_NoStore := c.gn 67 (x := ("NoStore" : Str)), ga_NoStore := c.glo X G 67 (x := ("NoStore" : Str))
    ca_NotGrowing := He.ga K ("NotGrowing" : Str), na_NotGrowing := c.gn 68 (x := ("NotGrowing" : Str)), ga_NotGrowing := c.glo X G 68 (x := ("NotGrowing" : Str))
    ca_There := He.ga K ("There" : Str), na_There := c.gn 69 (x := ("There" : Str)), ga_There := c.glo X G 69 (x := ("There" : Str))
    ca_TooFew := He.ga K ("TooFew" : Str), na_TooFew := c.gn 70 (x := ("TooFew" : Str)), ga_TooFew := c.glo X G 70 (x := ("TooFew" : Str))
    ca_Untold := He.ga K ("Untold" : Str), na_Untold := c.gn 71 (x := ("Untold" : Str)), ga_Untold := c.glo X G 71 (x := ("Untold" : Str))
    ca_DiskError := He.ga K ("DiskError" : Str), na_DiskError := c.gn 72 (x := ("DiskError" : Str)), ga_DiskError := c.glo X G 72 (x := ("DiskError" : Str))
    kn_Gone := knB_ok (y := (some ("Gone" : Str))) (c.at_ 17 (f := knB (some ("Gone" : Str))))
    kn_Growing := knB_ok (y := (some ("Growing" : Str))) (c.at_ 18 (f := knB (some ("Growing" : Str))))
    kn_Halfway := knB_ok (y := (some ("Halfway" : Str))) (c.at_ 19 (f := knB (some ("Halfway" : Str))))
    kn_Lost := knB_ok (y := (some ("Lost" : Str))) (c.at_ 20 (f := knB (some ("Lost" : Str))))
    kn_NoPlace := knB_ok (y := (some ("NoPlace" : Str))) (c.at_ 21 (f := knB (some ("NoPlace" : Str))))
    kn_NoSpare := knB_ok (y := (some ("NoSpare" : Str))) (c.at_ 22 (f := knB (some ("NoSpare" : Str))))
    kn_NoStore := knB_ok (y := (some ("NoStore" : Str))) (c.at_ 23 (f := knB (some ("NoStore" : Str))))
    kn_NoText := knB_ok (y := (some ("NoText" : Str))) (c.at_ 24 (f := knB (some ("NoText" : Str))))
    kn_NotGrowing := knB_ok (y := (some ("NotGrowing" : Str))) (c.at_ 25 (f := knB (some ("NotGrowing" : Str))))
    kn_There := knB_ok (y := (some ("There" : Str))) (c.at_ 26 (f := knB (some ("There" : Str))))
    kn_TooFew := knB_ok (y := (some ("TooFew" : Str))) (c.at_ 27 (f := knB (some ("TooFew" : Str))))
    kn_Untold := knB_ok (y := (some ("Untold" : Str))) (c.at_ 28 (f := knB (some ("Untold" : Str))))
    kn_ValueError := knB_ok (y := none) (c.at_ 29 (f := knB none))
  }
  exact ⟨_, fun s v => FunD.bindsA (ps := [("_law_script" : Str)]) FD (fun _ _ _ _ _ _ us hl => match us, hl with | [_], _ => rfl) s [v] rfl, fun base _ _ => ok_law T⟩
end Law
open PySem PySem.W PySem.Calls PyProof.Rows
set_option maxRecDepth 100000 in
set_option maxHeartbeats 0 in
theorem PySem.Challenge.cw_lostdisk_k82_rows_that_are_none_holds : PySem.Challenge.rw_lostdisk_k82_rows_that_are_none.Holds := by
  w_on; o_law
  refine HandSHeadRun.head_any (r := Law.RL) (q := view Law.RL.prog [51]) (H := Law.hkL) (ob := Law.obL) (M := 30000) (loose := Law.nmL) (d := HandSHeadRun.topDef Law.RL.prog 51) (kwd := []) Law.obL_eq
    (by kernel_rfl) (fun s => by kernel_rfl) Law.run (by kernel_rfl) (by kernel_rfl) (by kernel_rfl) (by rfl) (by first | assumption | decide +kernel) (by decide +kernel) ⟨rfl, rfl, rfl, rfl, rfl, by decide +kernel⟩ ?hw ?hc
  case hw => w_witness2
  case hc =>
    refine L2.walk_ofE (l := PySem.Challenge.rw_lostdisk_k82_rows_that_are_none) (n := 63) (k := 9) (x := ("_law_script" : Str)) (CX := L2.CX0) rfl (by decide) (by kernel_rfl) ⟨rfl, by decide, by decide⟩ ?F (fun _ _ _ _ z => z)
    intro w mg fa h Y G hmg0
    obtain ⟨K, KX, c⟩ := Y
    have hmg : mg ("law" : PySem.Str) = some (.ref fa) := by
      have e : (HandSHeadRun.topDef Law.RL.prog 51).name = ("law" : PySem.Str) := by kernel_rfl
      rw [← e]
      exact hmg0
    obtain ⟨fd, hb, hF⟩ := Law.facts (l := PySem.Challenge.rw_lostdisk_k82_rows_that_are_none) KX G hmg c
    exact ⟨K, fd, HC.cSp K Law.sp_law, KX, hb, fun H a ns hl hO hS => HC.law_end hl hO hS Law.law_true, hF⟩
