import PyProof.Rows.All
import HandS.HeadEnd
import HandS.Head2
import HandS.HeadHook3
import HandS.HeadHook4
import HandS.ExcField
import HandS.Words
import Wide.All
import OpenK.AllK
import Wide.FinOn
import HandS.ForMost
import HandS.ForExc
import HandS.Wide
import HandS.IsInst
import HandS.TupAny
import HandS.TupMul
import HandS.Zip
import HandS.Walk
import HandS.Conv
import HandS.Codes
import HandS.TryOnly
import HandS.More
import HandS.TupLe
import HandS.Steps
import HandS.Lambda
import KE.GoesEnum
import KE.GoesZip
import HandS.Style
import PyProof.Rows.SeqMore
import HandS.CallLocal
import HandS.SortInts
import HandS.SortRule
import HandS.Deep
import HandS.SetKeys
import HandS.Iter
import HandS.Rev
import PyProof.EqAt
import HandS.SetFor
import HandS.Strs
import HandS.Flow
import KE.KStrBytes
import PySem.Challenge.RW_lostdisk_k67_rows_of_a_plan
set_option Elab.async false
set_option linter.all false
set_option maxRecDepth 100000
set_option maxHeartbeats 1000000
namespace HC
open PySem PySem.Spec L2 PyProof.Rows
def ddF (x : Str) (st : Stmt) : He.DefD := ⟨(x, none), x, x, defArgs st, defBody st, defScope st, [], []⟩
def ddM (c m q : Str) (st : Stmt) : He.DefD := ⟨(c, some m), m, q, defArgs st, defBody st, defScope st, [], []⟩
abbrev AlY : Type := He.AlT × Bool
def obsY0 (fa : List He.Fa) (fn : List He.DefD) (ts : List He.Tab) (ex : List (PySem.W.Frag → Bool)) (K : PySem.W.Frag) : AlY := (He.obsT fa fn ts K, ex.all fun f => f K)
def obsY (n : Nat) (fa : List He.Fa) (fn : List He.DefD) (ts : List He.Tab) (ex : List (PySem.W.Frag → Bool)) (g : Addr → Option Obj) : AlY := obsY0 fa fn ts ex (He.frG g (List.range n))
def valY (fn : List He.DefD) (ts : List He.Tab) (w : World) : AlY := (He.valT fn ts w, true)
def SaysY (fa : List He.Fa) (fn : List He.DefD) (ts : List He.Tab) (ex : List (PySem.W.Frag → Bool)) (w : World) (K : PySem.W.Frag) : Prop := obsY0 fa fn ts ex K = valY fn ts w
def hookY (n : Nat) (fa : List He.Fa) (fn : List He.DefD) (ts : List He.Tab) (ex : List (PySem.W.Frag → Bool)) : PySem.W.Hook where
  α := AlY
  obs := fun s => obsY n fa fn ts ex s.heap.get?
  val := fun w => valY fn ts w
  says := fun w h => ∃ K : PySem.W.Frag, K.In h ∧ SaysY fa fn ts ex w K
  of := fun _ _ e => ⟨_, He.frG_in, e⟩
  keeps := fun _ _ _ ⟨K, hK, c⟩ k => ⟨K, PySem.W.Frag.In.keeps hK k, c⟩
theorem obsY_eq {n : Nat} {fa : List He.Fa} {fn : List He.DefD} {ts : List He.Tab} {ex : List (PySem.W.Frag → Bool)} {g : Addr → Option Obj} {s : Shared} (h : ∀ a, g a = s.heap.get? a) : obsY n fa fn ts ex g = (hookY n fa fn ts ex).obs s := by
  have e : g = s.heap.get? := funext h
  rw [e] <;> rfl
section
open HandSHeadRun
variable {E : Option PySem.W.SharedT} {n : Nat} {fa : List He.Fa} {ts : List He.Tab} {ex : List (PySem.W.Frag → Bool)} {w : World}
theorem obs_add {fn fn2 : List He.DefD} {K : PySem.W.Frag} (h1 : obsY0 fa fn ts ex K = valY fn ts w) (h2 : obsY0 [] fn2 [] [] K = valY fn2 [] w) : obsY0 fa (fn ++ fn2) ts ex K = valY (fn ++ fn2) ts w := by
  have a1 : ((fa.all fun f => f.ok K) && fn.all fun d => d.ok K) = true := congrArg (fun z : AlY => z.1.1.1) h1
  have a2 : fn.map (fun d => He.fnW K d.at_) = fn.map He.DefD.val := congrArg (fun z : AlY => z.1.1.2) h1
  have a3 : ts.map (fun t => He.dicW K (t.1 K)) = ts.map fun t => some (He.keysIn w.params t.2) := congrArg (fun z : AlY => z.1.2) h1
  have a4 : (ex.all fun f => f K) = true := congrArg (fun z : AlY => z.2) h1
  have b1 : (([] : List He.Fa).all (fun f => f.ok K) && fn2.all fun d => d.ok K) = true := congrArg (fun z : AlY => z.1.1.1) h2
  have b2 : fn2.map (fun d => He.fnW K d.at_) = fn2.map He.DefD.val := congrArg (fun z : AlY => z.1.1.2) h2
  obtain ⟨c1, c2⟩ := Bool.and_eq_true_iff.mp a1
  have c3 := (Bool.and_eq_true_iff.mp b1).2
  show ((((fa.all fun f => f.ok K) && (fn ++ fn2).all fun d => d.ok K, (fn ++ fn2).map fun d => He.fnW K d.at_), ts.map fun t => He.dicW K (t.1 K)), ex.all fun f => f K) = (((true, (fn ++ fn2).map He.DefD.val), ts.map fun t => some (He.keysIn w.params t.2)), true)
  rw [List.all_append, List.map_append, List.map_append, c1, c2, c3, a2, a3, a4, b2]
  rfl
theorem run_add {fn fn2 : List He.DefD} (h1 : E.map (fun s => obsY n fa fn ts ex (getT s)) = some (valY fn ts w)) (h2 : E.map (fun s => obsY n [] fn2 [] [] (getT s)) = some (valY fn2 [] w)) :
    E.map (fun s => obsY n fa (fn ++ fn2) ts ex (getT s)) = some (valY (fn ++ fn2) ts w) := by
  cases E with
  | none => cases h1
  | some s => exact congrArg some (obs_add (Option.some.inj h1) (Option.some.inj h2))
theorem run_join3 {α β γ : Type} {f : PySem.W.SharedT → α} {g : PySem.W.SharedT → β} {k : PySem.W.SharedT → γ} {a : α} {b : β} {c : γ} (h1 : E.map (fun s => (f s, g s)) = some (a, b)) (h2 : E.map k = some c) : E.map (fun s => (f s, g s, k s)) = some (a, b, c) := by
  cases E with
  | none => cases h1
  | some s =>
    have e := Option.some.inj h1
    have e1 : f s = a := congrArg Prod.fst e
    have e2 : g s = b := congrArg Prod.snd e
    have e3 : k s = c := Option.some.inj h2
    show some (f s, g s, k s) = _
    rw [e1, e2, e3]
end
end HC
namespace Law
open PySem PySem.Spec L2 HC PyProof.Rows
set_option maxHeartbeats 0
def top (i : Nat) : Stmt := PySem.Challenge.pw_lostdisk_k67_rows_of_a_plan.main.body.getD i (.Pass ⟨0, 0, 0, 0⟩)
def innerOf (s : Stmt) (j : Nat) : Stmt := match s with | .ClassDef _ _ _ b _ _ _ _ _ _ _ => b.getD j (.Pass ⟨0, 0, 0, 0⟩) | _ => s
abbrev s_law_next : Stmt := top 27
abbrev s_law_blocks : Stmt := top 35
abbrev s_law_width : Stmt := top 30
abbrev s_law_readable : Stmt := top 32
abbrev s_law_any : Stmt := top 33
abbrev s_law_spot : Stmt := top 31
abbrev s_law_read_needs : Stmt := top 34
abbrev s_law_fit : Stmt := top 36
abbrev s_law_whole : Stmt := top 37
abbrev s_law_rising : Stmt := top 38
abbrev s_law_meets : Stmt := top 39
abbrev s_law_state : Stmt := top 28
abbrev s_law_store : Stmt := top 29
abbrev s_blocks_kept : Stmt := top 11
abbrev s_look_whole : Stmt := top 14
abbrev s_look_wanted : Stmt := top 19
abbrev s_disk_of : Stmt := top 6
abbrev s_row_width : Stmt := top 9
abbrev s_row_blocks : Stmt := top 10
abbrev s_disks_read : Stmt := top 15
abbrev s_any_need : Stmt := top 16
abbrev s_row_need : Stmt := top 17
abbrev s_spot_of : Stmt := top 7
abbrev s_spot_now : Stmt := top 12
abbrev s_wanted_places : Stmt := top 18
abbrev s_read_needs : Stmt := top 20
abbrev s_Spread___init__ : Stmt := innerOf (top 22) 0
abbrev s_Spread_busiest : Stmt := innerOf (top 22) 1
abbrev s_Spread_exchanges : Stmt := innerOf (top 22) 2
abbrev s_Spread_reached : Stmt := innerOf (top 22) 3
abbrev s_Spread_shift : Stmt := innerOf (top 22) 4
abbrev s_Spread_eased : Stmt := innerOf (top 22) 5
abbrev s_Spread_plan : Stmt := innerOf (top 22) 6
abbrev s_spread_of : Stmt := top 23
abbrev s_read_plan : Stmt := top 25
abbrev s_law : Stmt := top 40
def faL0 : List He.Fa := [.glo ("law" : Str), .free ("abs" : Str), .free ("all" : Str), .free ("any" : Str), .free ("bool" : Str), .free ("enumerate" : Str), .free ("int" : Str), .free ("isinstance" : Str), .free ("len" : Str), .free ("list" : Str), .free ("max" : Str), .free ("min" : Str), .free ("range" : Str), .free ("set" : Str), .free ("sorted" : Str), .free ("tuple" : Str), .free ("zip" : Str), .glo ("_law_next" : Str), .glo ("_law_blocks" : Str), .glo ("_law_width" : Str), .glo ("_law_readable" : Str), .glo ("_law_any" : Str), .glo ("_law_spot" : Str), .glo ("_law_read_needs" : Str), .glo ("_law_fit" : Str), .glo ("_law_whole" : Str), .glo ("_law_rising" : Str), .glo ("_law_meets" : Str), .glo ("_law_state" : Str), .glo ("_law_store" : Str)]
def faL1 : List He.Fa := [.glo ("blocks_kept" : Str), .glo ("look_whole" : Str), .glo ("look_wanted" : Str), .glo ("disk_of" : Str), .glo ("row_width" : Str), .glo ("row_blocks" : Str), .glo ("disks_read" : Str), .glo ("any_need" : Str), .glo ("row_need" : Str), .glo ("spot_of" : Str), .glo ("spot_now" : Str), .glo ("wanted_places" : Str), .glo ("read_needs" : Str), .mkr ("Spread" : Str), .meth ("Spread" : Str) ("busiest" : Str), .meth ("Spread" : Str) ("exchanges" : Str), .meth ("Spread" : Str) ("reached" : Str), .meth ("Spread" : Str) ("shift" : Str), .meth ("Spread" : Str) ("eased" : Str), .meth ("Spread" : Str) ("plan" : Str), .glo ("spread_of" : Str), .glo ("read_plan" : Str), .glo ("Spread" : Str), .cls ("Spread" : Str), .noat ("Spread" : Str) ("loads" : Str), .noat ("Spread" : Str) ("needs" : Str), .noat ("Spread" : Str) ("reads" : Str)]
def faL : List He.Fa := faL0 ++ faL1
def fnL0 : List He.DefD := [ddF ("_law_next" : Str) s_law_next, ddF ("_law_blocks" : Str) s_law_blocks, ddF ("_law_width" : Str) s_law_width, ddF ("_law_readable" : Str) s_law_readable, ddF ("_law_any" : Str) s_law_any, ddF ("_law_spot" : Str) s_law_spot, ddF ("_law_read_needs" : Str) s_law_read_needs, ddF ("_law_fit" : Str) s_law_fit, ddF ("_law_whole" : Str) s_law_whole, ddF ("_law_rising" : Str) s_law_rising, ddF ("_law_meets" : Str) s_law_meets, ddF ("_law_state" : Str) s_law_state, ddF ("_law_store" : Str) s_law_store, ddF ("blocks_kept" : Str) s_blocks_kept, ddF ("look_whole" : Str) s_look_whole, ddF ("look_wanted" : Str) s_look_wanted, ddF ("disk_of" : Str) s_disk_of, ddF ("row_width" : Str) s_row_width, ddF ("row_blocks" : Str) s_row_blocks, ddF ("disks_read" : Str) s_disks_read, ddF ("any_need" : Str) s_any_need, ddF ("row_need" : Str) s_row_need, ddF ("spot_of" : Str) s_spot_of, ddF ("spot_now" : Str) s_spot_now, ddF ("wanted_places" : Str) s_wanted_places, ddF ("read_needs" : Str) s_read_needs, ddM ("Spread" : Str) ("__init__" : Str) ("Spread.__init__" : Str) s_Spread___init__, ddM ("Spread" : Str) ("busiest" : Str) ("Spread.busiest" : Str) s_Spread_busiest, ddM ("Spread" : Str) ("exchanges" : Str) ("Spread.exchanges" : Str) s_Spread_exchanges, ddM ("Spread" : Str) ("reached" : Str) ("Spread.reached" : Str) s_Spread_reached, ddM ("Spread" : Str) ("shift" : Str) ("Spread.shift" : Str) s_Spread_shift, ddM ("Spread" : Str) ("eased" : Str) ("Spread.eased" : Str) s_Spread_eased, ddM ("Spread" : Str) ("plan" : Str) ("Spread.plan" : Str) s_Spread_plan, ddF ("spread_of" : Str) s_spread_of, ddF ("read_plan" : Str) s_read_plan, ddF ("law" : Str) s_law]
def fnL : List He.DefD := fnL0
def tsL0 : List He.Tab := []
def tsL : List He.Tab := tsL0
def exL0 : List (PySem.W.Frag → Bool) := []
def exL : List (PySem.W.Frag → Bool) := exL0
def nmL0 : List Str := [("DiskError" : Str), ("NoPlace" : Str), ("Halfway" : Str), ("Lost" : Str), ("disk_of" : Str), ("spot_of" : Str), ("row_width" : Str), ("row_blocks" : Str), ("blocks_kept" : Str), ("spot_now" : Str), ("look_whole" : Str), ("disks_read" : Str), ("any_need" : Str), ("row_need" : Str), ("wanted_places" : Str), ("look_wanted" : Str), ("read_needs" : Str), ("Spread" : Str), ("spread_of" : Str), ("read_plan" : Str), ("_law_next" : Str), ("_law_state" : Str), ("_law_store" : Str), ("_law_width" : Str), ("_law_spot" : Str), ("_law_readable" : Str), ("_law_any" : Str), ("_law_read_needs" : Str), ("_law_blocks" : Str), ("_law_fit" : Str)]
def nmL1 : List Str := [("_law_whole" : Str), ("_law_rising" : Str), ("_law_meets" : Str)]
def nmL : List Str := nmL0 ++ nmL1
abbrev RL : PySem.W.OpenRow := PySem.W.OpenLaw.row PySem.Challenge.rw_lostdisk_k67_rows_of_a_plan
abbrev hkL : PySem.W.Hook := hookY 2000 faL fnL tsL exL
def obL (s : PySem.W.SharedT) : AlY := obsY 2000 faL fnL tsL exL (HandSHeadRun.getT s)
theorem obL_eq (s : PySem.W.SharedT) : obL s = hkL.obs s.abs := obsY_eq (HandSHeadRun.getT_eq s)
open PySem.W PySem.Calls in
theorem runAF (w : World) (os : OsState) : ((HandSHeadRun.endF (HandSHeadRun.stepQ (HandSHeadRun.denQ HandSHeadRun.tabQ) RL.prog (w.withFollow "special-get-raises" false)) 30000 RL.prog (w.withFollow "special-get-raises" false) os).map fun s => (HandSHeadRun.looksF RL.prog (boot_heap (World.params (w.withFollow "special-get-raises" false))) s.abs, HandSHeadRun.seenQ (PySem.W.view RL.prog [40]) nmL (importedModules RL.prog.main.body) (fun s => PySem.W.xlAt (PySem.W.view RL.prog [40]) [] s && PySem.W.recOk RL.toRowW.records s) s.abs)) = some (true, PySem.W.openGood (PySem.W.view RL.prog [40]) nmL) := by
  kernel_rfl
theorem runBF (w : World) (os : OsState) : ((HandSHeadRun.endF (HandSHeadRun.stepQ (HandSHeadRun.denQ HandSHeadRun.tabQ) RL.prog (w.withFollow "special-get-raises" false)) 30000 RL.prog (w.withFollow "special-get-raises" false) os).map fun s => obsY 2000 faL [] tsL exL (HandSHeadRun.getT s)) = some (valY [] tsL (w.withFollow "special-get-raises" false)) := by
  kernel_rfl
theorem run0F (w : World) (os : OsState) : ((HandSHeadRun.endF (HandSHeadRun.stepQ (HandSHeadRun.denQ HandSHeadRun.tabQ) RL.prog (w.withFollow "special-get-raises" false)) 30000 RL.prog (w.withFollow "special-get-raises" false) os).map fun s => obsY 2000 [] fnL0 [] [] (HandSHeadRun.getT s)) = some (valY fnL0 [] (w.withFollow "special-get-raises" false)) := by
  kernel_rfl
theorem runJF (w : World) (os : OsState) : ((HandSHeadRun.endF (HandSHeadRun.stepQ (HandSHeadRun.denQ HandSHeadRun.tabQ) RL.prog (w.withFollow "special-get-raises" false)) 30000 RL.prog (w.withFollow "special-get-raises" false) os).map fun s => obL s) = some (valY fnL tsL (w.withFollow "special-get-raises" false)) := by
  have h := (run_add (runBF w os) (run0F w os))
  exact h
open PySem.W PySem.Calls in
theorem runKF (w : World) (os : OsState) : ((HandSHeadRun.endF (HandSHeadRun.stepQ (HandSHeadRun.denQ HandSHeadRun.tabQ) RL.prog (w.withFollow "special-get-raises" false)) 30000 RL.prog (w.withFollow "special-get-raises" false) os).map fun s => (HandSHeadRun.looksF RL.prog (boot_heap (World.params (w.withFollow "special-get-raises" false))) s.abs, HandSHeadRun.seenQ (PySem.W.view RL.prog [40]) nmL (importedModules RL.prog.main.body) (fun s => PySem.W.xlAt (PySem.W.view RL.prog [40]) [] s && PySem.W.recOk RL.toRowW.records s) s.abs, obL s)) = some (true, PySem.W.openGood (PySem.W.view RL.prog [40]) nmL, valY fnL tsL (w.withFollow "special-get-raises" false)) := run_join3 (runAF w os) (runJF w os)
theorem runF (w : World) : HandSHeadRun.RunEq RL (PySem.W.view RL.prog [40]) hkL obL 30000 nmL (w.withFollow "special-get-raises" false) := fun os => runKF w os
open PySem.W PySem.Calls in
theorem runAT (w : World) (os : OsState) : ((HandSHeadRun.endF (HandSHeadRun.stepQ (HandSHeadRun.denQ HandSHeadRun.tabQ) RL.prog (w.withFollow "special-get-raises" true)) 30000 RL.prog (w.withFollow "special-get-raises" true) os).map fun s => (HandSHeadRun.looksF RL.prog (boot_heap (World.params (w.withFollow "special-get-raises" true))) s.abs, HandSHeadRun.seenQ (PySem.W.view RL.prog [40]) nmL (importedModules RL.prog.main.body) (fun s => PySem.W.xlAt (PySem.W.view RL.prog [40]) [] s && PySem.W.recOk RL.toRowW.records s) s.abs)) = some (true, PySem.W.openGood (PySem.W.view RL.prog [40]) nmL) := by
  kernel_rfl
theorem runBT (w : World) (os : OsState) : ((HandSHeadRun.endF (HandSHeadRun.stepQ (HandSHeadRun.denQ HandSHeadRun.tabQ) RL.prog (w.withFollow "special-get-raises" true)) 30000 RL.prog (w.withFollow "special-get-raises" true) os).map fun s => obsY 2000 faL [] tsL exL (HandSHeadRun.getT s)) = some (valY [] tsL (w.withFollow "special-get-raises" true)) := by
  kernel_rfl
theorem run0T (w : World) (os : OsState) : ((HandSHeadRun.endF (HandSHeadRun.stepQ (HandSHeadRun.denQ HandSHeadRun.tabQ) RL.prog (w.withFollow "special-get-raises" true)) 30000 RL.prog (w.withFollow "special-get-raises" true) os).map fun s => obsY 2000 [] fnL0 [] [] (HandSHeadRun.getT s)) = some (valY fnL0 [] (w.withFollow "special-get-raises" true)) := by
  kernel_rfl
theorem runJT (w : World) (os : OsState) : ((HandSHeadRun.endF (HandSHeadRun.stepQ (HandSHeadRun.denQ HandSHeadRun.tabQ) RL.prog (w.withFollow "special-get-raises" true)) 30000 RL.prog (w.withFollow "special-get-raises" true) os).map fun s => obL s) = some (valY fnL tsL (w.withFollow "special-get-raises" true)) := by
  have h := (run_add (runBT w os) (run0T w os))
  exact h
open PySem.W PySem.Calls in
theorem runKT (w : World) (os : OsState) : ((HandSHeadRun.endF (HandSHeadRun.stepQ (HandSHeadRun.denQ HandSHeadRun.tabQ) RL.prog (w.withFollow "special-get-raises" true)) 30000 RL.prog (w.withFollow "special-get-raises" true) os).map fun s => (HandSHeadRun.looksF RL.prog (boot_heap (World.params (w.withFollow "special-get-raises" true))) s.abs, HandSHeadRun.seenQ (PySem.W.view RL.prog [40]) nmL (importedModules RL.prog.main.body) (fun s => PySem.W.xlAt (PySem.W.view RL.prog [40]) [] s && PySem.W.recOk RL.toRowW.records s) s.abs, obL s)) = some (true, PySem.W.openGood (PySem.W.view RL.prog [40]) nmL, valY fnL tsL (w.withFollow "special-get-raises" true)) := run_join3 (runAT w os) (runJT w os)
theorem runT (w : World) : HandSHeadRun.RunEq RL (PySem.W.view RL.prog [40]) hkL obL 30000 nmL (w.withFollow "special-get-raises" true) := fun os => runKT w os
theorem run (w : World) : HandSHeadRun.RunEq RL (PySem.W.view RL.prog [40]) hkL obL 30000 nmL w := PySem.W.byRow2 "special-get-raises" (P := fun w => HandSHeadRun.RunEq RL (PySem.W.view RL.prog [40]) hkL obL 30000 nmL w) runF runT w
end Law
set_option maxHeartbeats 4000000
namespace HC
open PySem L2
inductive Dv where
  | non | bl (b : Bool) | int (i : Int) | str (x : Str) | ref (a : Addr) | ty (n : String)
  | tup (xs : List Dv)
  | rol (xs : List Dv)
  | tuc (xs : List Dv)
  | exc (c : Str) (f : Option Int)
inductive Cell where
  | lst (xs : List Dv)
  | dic (kvs : List (Key × Dv))
  | dit (kvs : List (List Key × Dv))
  | fdc (kvs : List (Key × Dv))
  | obj (c : Str) (fs : List (Str × Dv))
  | tab (x : Str)
  | cod (q : Str)
abbrev Ms := Addr → Option Cell
def mup (M : Ms) (a : Addr) (c : Cell) : Ms := fun b => if b = a then some c else M b
theorem mup_same {M : Ms} {a : Addr} {c : Cell} : mup M a c a = some c := if_pos rfl
theorem mup_ne {M : Ms} {a b : Addr} {c : Cell} (h : b ≠ a) : mup M a c b = M b := if_neg h
theorem mup_mup {M : Ms} {a : Addr} {c d : Cell} : mup (mup M a c) a d = mup M a d := by
  funext b; unfold mup; split <;> rfl
theorem mup_self {M : Ms} {a : Addr} {c : Cell} (h : M a = some c) : mup M a c = M := by
  funext b; unfold mup; split
  · subst b; exact h.symm
  · rfl
theorem ne_of_new {M : Ms} {a p : Addr} {c : Cell} (h : M a = some c) (h' : M p = none) : a ≠ p := by
  intro e; subst e; rw [h] at h'; cases h'
def SqF (K : PySem.W.Frag) (H : Hp) (a : Addr) (xs : List V) : Prop := (∃ o, H a = some (.frz o (.lst xs))) ∨ SqL K (fun _ => none) a xs
theorem SqF.l {K : PySem.W.Frag} {H : Hp} {a : Addr} {xs : List V} (h : SqF K H a xs) : SqL K H a xs := by
  rcases h with ⟨o, h⟩ | h
  · exact .inl (.inr ⟨o, h⟩)
  · rcases h with (h | ⟨_, h⟩) | h
    · cases h
    · cases h
    · exact .inr h
def SqC (H : Hp) (a : Addr) (xs : List V) : Prop := ∃ o : Obj, H a = some (.frz o (.tup xs)) ∧ o.dict = none
theorem SqC.t {K : PySem.W.Frag} {H : Hp} {a : Addr} {xs : List V} (h : SqC H a xs) : SqT K H a xs := by
  obtain ⟨o, h, _⟩ := h
  exact .inl (.inr ⟨o, h⟩)
def SqX (K : PySem.W.Frag) (H : Hp) (a : Addr) (c : Str) (f : Option Int) : Prop := ∃ (C : Addr) (oe : Obj) (u : HO), PySem.W.nsIn K mainGlobals c = some (some (.ref C)) ∧ H a = some (.frz oe u) ∧ oe.cls = .ref C ∧ (∃ vs, oe.data = .fields vs) ∧
  match f with
  | none => oe.dict = none
  | some r => ∃ dx od, oe.dict = some dx ∧ H dx = some (.frz od (.xd [(("row" : Str), .int r)]))
mutual
def Rep (K : PySem.W.Frag) (H : Hp) : Dv → V → Prop
  | .non, v => v = .non
  | .bl b, v => v = .bl b
  | .int i, v => v = .int i
  | .str x, v => v = .str x
  | .ref a, v => v = .ref a
  | .ty n, v => v = .ty n
  | .tup ds, v => ∃ a vs, v = .ref a ∧ SqT K H a vs ∧ Reps K H ds vs
  | .rol ds, v => ∃ a vs, v = .ref a ∧ SqF K H a vs ∧ Reps K H ds vs
  | .tuc ds, v => ∃ a vs, v = .ref a ∧ SqC H a vs ∧ Reps K H ds vs
  | .exc c f, v => ∃ a, v = .ref a ∧ SqX K H a c f
def Reps (K : PySem.W.Frag) (H : Hp) : List Dv → List V → Prop
  | [], vs => vs = []
  | d :: ds, vs => ∃ v r, vs = v :: r ∧ Rep K H d v ∧ Reps K H ds r
end
structure Tp (K : PySem.W.Frag) (H H' : Hp) : Prop where
  t : ∀ a vs, SqT K H a vs → SqT K H' a vs
  f : ∀ a vs, SqF K H a vs → SqF K H' a vs
  c : ∀ a vs, SqC H a vs → SqC H' a vs
  d : ∀ a o u, H a = some (.frz o u) → H' a = some (.frz o u)
theorem Tp.refl {K : PySem.W.Frag} (H : Hp) : Tp K H H := ⟨fun _ _ h => h, fun _ _ h => h, fun _ _ h => h, fun _ _ _ h => h⟩
theorem Tp.trans {K : PySem.W.Frag} {H H1 H2 : Hp} (a : Tp K H H1) (b : Tp K H1 H2) : Tp K H H2 := ⟨fun x vs h => b.t x vs (a.t x vs h), fun x vs h => b.f x vs (a.f x vs h), fun x vs h => b.c x vs (a.c x vs h), fun x o u h => b.d x o u (a.d x o u h)⟩
def Soft : Option HO → Prop
  | none => True
  | some (.lst _) => True
  | some (.dK _) => True
  | some (.dT _) => True
  | some (.ins _ _ _) => True
  | _ => False
theorem Tp.put {K : PySem.W.Frag} {H : Hp} {a : Addr} {o : HO} (h : Soft (H a)) : Tp K H (upd H a o) := by
  refine ⟨fun b vs q => ?_, fun b vs q => ?_, fun b vs ⟨ob, q, hd⟩ => ⟨ob, (upd_ne (fun e => by subst e; rw [q] at h; exact h)).trans q, hd⟩, fun b o u q => (upd_ne (fun e => by subst e; rw [q] at h; exact h)).trans q⟩
  · rcases q with (q | ⟨ob, q⟩) | q
    · refine .inl (.inl ?_)
      rw [upd_ne]
      · exact q
      · intro e; subst e; rw [q] at h; exact h
    · refine .inl (.inr ⟨ob, ?_⟩)
      rw [upd_ne]
      · exact q
      · intro e; subst e; rw [q] at h; exact h
    · exact .inr q
  · rcases q with ⟨ob, q⟩ | q
    · refine .inl ⟨ob, ?_⟩
      rw [upd_ne]
      · exact q
      · intro e; subst e; rw [q] at h; exact h
    · exact .inr q
theorem SqX.mono {K : PySem.W.Frag} {H H' : Hp} {a : Addr} {c : Str} {f : Option Int} (h : SqX K H a c f) (t : Tp K H H') : SqX K H' a c f := by
  obtain ⟨C, oe, u, h1, h2, h3, h4, h5⟩ := h
  refine ⟨C, oe, u, h1, t.d _ _ _ h2, h3, h4, ?_⟩
  cases f with
  | none => exact h5
  | some r =>
    obtain ⟨dx, od, e, q⟩ := h5
    exact ⟨dx, od, e, t.d _ _ _ q⟩
section
variable {K : PySem.W.Frag} {H H' : Hp}
mutual
theorem Rep.mono (t : Tp K H H') : ∀ {d : Dv} {v : V}, Rep K H d v → Rep K H' d v
  | .non, _, h => by simpa only [Rep] using h
  | .bl _, _, h => by simpa only [Rep] using h
  | .int _, _, h => by simpa only [Rep] using h
  | .str _, _, h => by simpa only [Rep] using h
  | .ref _, _, h => by simpa only [Rep] using h
  | .ty _, _, h => by simpa only [Rep] using h
  | .tup ds, _, h => by
    simp only [Rep] at h ⊢
    obtain ⟨a, vs, e, q, r⟩ := h
    exact ⟨a, vs, e, t.t _ _ q, Reps.mono t r⟩
  | .rol ds, _, h => by
    simp only [Rep] at h ⊢
    obtain ⟨a, vs, e, q, r⟩ := h
    exact ⟨a, vs, e, t.f _ _ q, Reps.mono t r⟩
  | .tuc ds, _, h => by
    simp only [Rep] at h ⊢
    obtain ⟨a, vs, e, q, r⟩ := h
    exact ⟨a, vs, e, t.c _ _ q, Reps.mono t r⟩
  | .exc c f, _, h => by
    simp only [Rep] at h ⊢
    obtain ⟨a, e, q⟩ := h
    exact ⟨a, e, q.mono t⟩
theorem Reps.mono (t : Tp K H H') : ∀ {ds : List Dv} {vs : List V}, Reps K H ds vs → Reps K H' ds vs
  | [], _, h => by simpa only [Reps] using h
  | d :: ds, _, h => by
    simp only [Reps] at h ⊢
    obtain ⟨v, r, e, q, z⟩ := h
    exact ⟨v, r, e, Rep.mono t q, Reps.mono t z⟩
end
theorem Reps.nil : Reps K H [] [] := by simp only [Reps]
theorem Reps.cons {d : Dv} {v : V} {ds : List Dv} {vs : List V} (h : Rep K H d v) (r : Reps K H ds vs) : Reps K H (d :: ds) (v :: vs) := by
  simp only [Reps]
  exact ⟨v, vs, rfl, h, r⟩
theorem Reps.cons_inv {d : Dv} {ds : List Dv} {vs : List V} (h : Reps K H (d :: ds) vs) : ∃ v r, vs = v :: r ∧ Rep K H d v ∧ Reps K H ds r := by
  simpa only [Reps] using h
theorem Reps.nil_inv {vs : List V} (h : Reps K H [] vs) : vs = [] := by simpa only [Reps] using h
theorem Reps.length : ∀ {ds : List Dv} {vs : List V}, Reps K H ds vs → ds.length = vs.length
  | [], _, h => by rw [h.nil_inv]; rfl
  | d :: ds, _, h => by
    obtain ⟨v, r, rfl, _, z⟩ := h.cons_inv
    simp [Reps.length z]
theorem Reps.append : ∀ {ds es : List Dv} {vs ws : List V}, Reps K H ds vs → Reps K H es ws → Reps K H (ds ++ es) (vs ++ ws)
  | [], _, _, _, h, h' => by rw [h.nil_inv]; exact h'
  | d :: ds, _, _, _, h, h' => by
    obtain ⟨v, r, rfl, q, z⟩ := h.cons_inv
    exact Reps.cons q (Reps.append z h')
theorem Reps.get : ∀ {ds : List Dv} {vs : List V} {i : Nat} {d : Dv}, Reps K H ds vs → ds[i]? = some d → ∃ v, vs[i]? = some v ∧ Rep K H d v
  | [], _, _, _, _, e => by simp at e
  | d :: ds, _, 0, x, h, e => by
    obtain ⟨v, r, rfl, q, z⟩ := h.cons_inv
    simp at e; subst e
    exact ⟨v, rfl, q⟩
  | d :: ds, _, i + 1, x, h, e => by
    obtain ⟨v, r, rfl, q, z⟩ := h.cons_inv
    obtain ⟨w, h1, h2⟩ := Reps.get (i := i) z (by simpa using e)
    exact ⟨w, by simpa using h1, h2⟩
theorem Reps.take : ∀ {ds : List Dv} {vs : List V} (n : Nat), Reps K H ds vs → Reps K H (ds.take n) (vs.take n)
  | _, _, 0, _ => by simpa using Reps.nil
  | [], _, n + 1, h => by rw [h.nil_inv]; simpa using Reps.nil
  | d :: ds, _, n + 1, h => by
    obtain ⟨v, r, rfl, q, z⟩ := h.cons_inv
    simpa using Reps.cons q (Reps.take n z)
theorem Reps.drop : ∀ {ds : List Dv} {vs : List V} (n : Nat), Reps K H ds vs → Reps K H (ds.drop n) (vs.drop n)
  | _, _, 0, h => by simpa using h
  | [], _, n + 1, h => by rw [h.nil_inv]; simpa using Reps.nil
  | d :: ds, _, n + 1, h => by
    obtain ⟨v, r, rfl, q, z⟩ := h.cons_inv
    simpa using Reps.drop n z
theorem Reps.set : ∀ {ds : List Dv} {vs : List V} {d : Dv} {v : V} (i : Nat), Reps K H ds vs → Rep K H d v → Reps K H (ds.set i d) (vs.set i v)
  | [], _, _, _, _, h, _ => by rw [h.nil_inv]; simpa using Reps.nil
  | d :: ds, _, _, _, 0, h, q' => by
    obtain ⟨v, r, rfl, q, z⟩ := h.cons_inv
    simpa using Reps.cons q' z
  | d :: ds, _, _, _, i + 1, h, q' => by
    obtain ⟨v, r, rfl, q, z⟩ := h.cons_inv
    simpa using Reps.cons q (Reps.set i z q')
theorem Reps.eraseIdx : ∀ {ds : List Dv} {vs : List V} (i : Nat), Reps K H ds vs → Reps K H (ds.eraseIdx i) (vs.eraseIdx i)
  | [], _, _, h => by rw [h.nil_inv]; simpa using Reps.nil
  | d :: ds, _, 0, h => by
    obtain ⟨v, r, rfl, q, z⟩ := h.cons_inv
    simpa using z
  | d :: ds, _, i + 1, h => by
    obtain ⟨v, r, rfl, q, z⟩ := h.cons_inv
    simpa using Reps.cons q (Reps.eraseIdx i z)
theorem Reps.ints : ∀ {ns : List Int} {vs : List V}, Reps K H (ns.map Dv.int) vs → vs = ns.map V.int
  | [], _, h => by simpa using h.nil_inv
  | n :: ns, _, h => by
    obtain ⟨v, r, rfl, q, z⟩ := Reps.cons_inv (d := .int n) (ds := ns.map Dv.int) (by simpa using h)
    have e : v = .int n := by simpa only [Rep] using q
    rw [e, Reps.ints z]; rfl
theorem Reps.of_ints : ∀ (ns : List Int), Reps K H (ns.map Dv.int) (ns.map V.int)
  | [] => by simpa using Reps.nil
  | n :: ns => Reps.cons (by simp only [Rep]) (Reps.of_ints ns)
theorem Reps.bools : ∀ {ns : List Bool} {vs : List V}, Reps K H (ns.map Dv.bl) vs → vs = ns.map V.bl
  | [], _, h => by simpa using h.nil_inv
  | n :: ns, _, h => by
    obtain ⟨v, r, rfl, q, z⟩ := Reps.cons_inv (d := .bl n) (ds := ns.map Dv.bl) (by simpa using h)
    have e : v = .bl n := by simpa only [Rep] using q
    rw [e, Reps.bools z]; rfl
theorem Reps.replicate {d : Dv} {v : V} (h : Rep K H d v) : ∀ (n : Nat), Reps K H (List.replicate n d) (List.replicate n v)
  | 0 => Reps.nil
  | n + 1 => Reps.cons h (Reps.replicate h n)
end
def lamQ (x : Str) : Str := x ++ ".<locals>." ++ "<lambda>"
def lamP (K : PySem.W.Frag) (x : Str) : Addr := (He.cT K (x, none)).2
def RepC (K : PySem.W.Frag) (H : Hp) (a : Addr) : Cell → Prop
  | .tab x => a = lamP K x ∧ LamX.TabS H a (lamQ x)
  | .cod q => H a = some (LamX.CodeO a q)
  | .lst ds => ∃ vs, H a = some (.lst vs) ∧ Reps K H ds vs
  | .dic kds => ∃ kvs, H a = some (.dK kvs) ∧ Paired (fun (p : Key × Dv) (q : Key × V) => p.1 = q.1 ∧ Rep K H p.2 q.2) kds kvs
  | .dit kds => ∃ kvs, H a = some (.dT kvs) ∧ Paired (fun (p : List Key × Dv) (q : List Key × V) => p.1 = q.1 ∧ Rep K H p.2 q.2) kds kvs
  | .fdc kds => ∃ kvs o, H a = some (.frz o (.dK kvs)) ∧ Paired (fun (p : Key × Dv) (q : Key × V) => p.1 = q.1 ∧ Rep K H p.2 q.2) kds kvs
  | .obj c fs => ∃ C dx vs, PySem.W.nsIn K mainGlobals c = some (some (.ref C)) ∧ H a = some (.ins C dx vs) ∧ Paired (fun (p : Str × Dv) (q : Str × V) => p.1 = q.1 ∧ Rep K H p.2 q.2) fs vs
def Cell.sf : Cell → Bool
  | .fdc _ => false
  | .tab _ => false
  | .cod _ => false
  | _ => true
def View (K : PySem.W.Frag) (M : Ms) (H : Hp) : Prop := ∀ a c, M a = some c → RepC K H a c
def Sub (M M' : Ms) : Prop := ∀ a c, M a = some c → M' a = some c
theorem Sub.refl (M : Ms) : Sub M M := fun _ _ h => h
theorem Sub.trans {M M1 M2 : Ms} (a : Sub M M1) (b : Sub M1 M2) : Sub M M2 := fun x c h => b x c (a x c h)
theorem Sub.new {M : Ms} {p : Addr} {c : Cell} (h : M p = none) : Sub M (mup M p c) := fun b d e => by
  rw [mup_ne (ne_of_new e h)]; exact e
theorem Sub.mut {M M' : Ms} {p : Addr} {c : Cell} (s : Sub M M') (h : M p = none) : Sub M (mup M' p c) := fun b d e => by
  rw [mup_ne (ne_of_new e h)]; exact s b d e
theorem Sub.free {M M' : Ms} (s : Sub M M') {p : Addr} (h : M' p = none) : M p = none := by
  cases q : M p with
  | none => rfl
  | some c => rw [s p c q] at h; cases h
theorem Sub.both {M M' : Ms} {p : Addr} {c : Cell} (s : Sub M M') : Sub (mup M p c) (mup M' p c) := fun b d e => by
  by_cases h : b = p
  · subst h; rw [mup_same] at e ⊢; exact e
  · rw [mup_ne h] at e ⊢; exact s b d e
section
variable {K : PySem.W.Frag} {M M' : Ms} {H H' : Hp} {a : Addr}
theorem View.sub (v : View K M' H) (s : Sub M M') : View K M H := fun a c e => v a c (s a c e)
theorem RepC.ne {c : Cell} (h : RepC K H a c) : H a ≠ none := by
  cases c with
  | lst ds => obtain ⟨vs, e, _⟩ := h; rw [e]; exact fun q => nomatch q
  | dic ds => obtain ⟨vs, e, _⟩ := h; rw [e]; exact fun q => nomatch q
  | dit ds => obtain ⟨vs, e, _⟩ := h; rw [e]; exact fun q => nomatch q
  | fdc ds => obtain ⟨vs, o, e, _⟩ := h; rw [e]; exact fun q => nomatch q
  | obj C ds => obtain ⟨C', dx, vs, _, e, _⟩ := h; rw [e]; exact fun q => nomatch q
  | tab x => obtain ⟨_, ps, e, _⟩ := h; rw [e]; exact fun q => nomatch q
  | cod q => have h : H a = some (LamX.CodeO a q) := h; rw [h]; exact fun q => nomatch q
theorem View.free (v : View K M H) (h : H a = none) : M a = none := by
  cases q : M a with
  | none => rfl
  | some c => exact ((v a c q).ne h).elim
theorem View.soft (v : View K M H) {c : Cell} (h : M a = some c) (hs : c.sf = true := by rfl) : Soft (H a) := by
  have r := v a c h
  cases c with
  | lst ds => obtain ⟨vs, e, _⟩ := r; rw [e]; trivial
  | dic ds => obtain ⟨vs, e, _⟩ := r; rw [e]; trivial
  | dit ds => obtain ⟨vs, e, _⟩ := r; rw [e]; trivial
  | fdc ds => cases hs
  | obj C ds => obtain ⟨C', dx, vs, _, e, _⟩ := r; rw [e]; trivial
  | tab xs => cases hs
  | cod q => cases hs
def TpE (H H' : Hp) : Prop := ∀ b o, H b = some o → ((∃ ps, o = .tbl ps) ∨ ∃ φ, o = .ext φ) → H' b = some o
theorem TpE.tab {H H' : Hp} (x : TpE H H') {P : Addr} {q : Str} (t : LamX.TabS H P q) : LamX.TabS H' P q := by
  obtain ⟨ps, h1, h2, h3⟩ := t
  refine ⟨ps, x _ _ h1 (.inl ⟨_, rfl⟩), h2, fun pos cv hc => ?_⟩
  obtain ⟨c, e1, e2⟩ := h3 pos cv hc
  exact ⟨c, e1, x _ _ e2 (.inr ⟨_, rfl⟩)⟩
theorem TpE.soft {H : Hp} {a : Addr} {o : HO} (hs : Soft (H a)) : TpE H (upd H a o) := fun b u q hu => (upd_ne (fun z => by
  subst z
  rw [q] at hs
  rcases hu with ⟨_, rfl⟩ | ⟨_, rfl⟩ <;> exact hs)).trans q
theorem RepC.keep {c : Cell} (r : RepC K H a c) (t : Tp K H H') (e : H' a = H a) (x : TpE H H') : RepC K H' a c := by
  cases c with
  | tab y => exact ⟨r.1, x.tab r.2⟩
  | cod q => exact e.trans r
  | lst ds =>
    obtain ⟨vs, h, q⟩ := r
    exact ⟨vs, e.trans h, q.mono t⟩
  | dic ds =>
    obtain ⟨vs, h, q⟩ := r
    exact ⟨vs, e.trans h, Paired.mapP q fun _ _ z => ⟨z.1, z.2.mono t⟩⟩
  | dit ds =>
    obtain ⟨vs, h, q⟩ := r
    exact ⟨vs, e.trans h, Paired.mapP q fun _ _ z => ⟨z.1, z.2.mono t⟩⟩
  | fdc ds =>
    obtain ⟨vs, o, h, q⟩ := r
    exact ⟨vs, o, e.trans h, Paired.mapP q fun _ _ z => ⟨z.1, z.2.mono t⟩⟩
  | obj C ds =>
    obtain ⟨C', dx, vs, hn, h, q⟩ := r
    exact ⟨C', dx, vs, hn, e.trans h, Paired.mapP q fun _ _ z => ⟨z.1, z.2.mono t⟩⟩
theorem View.put {o : HO} {c : Cell} (v : View K M H) (hs : Soft (H a)) (r : RepC K (upd H a o) a c) : View K (mup M a c) (upd H a o) := fun b d e => by
  by_cases h : b = a
  · subst h; rw [mup_same] at e; cases e; exact r
  · rw [mup_ne h] at e
    exact (v b d e).keep (Tp.put hs) (upd_ne h) (TpE.soft hs)
theorem View.new {o : HO} (v : View K M H) (h : H a = none) : View K M (upd H a o) := fun b d e => by
  refine (v b d e).keep (Tp.put (by rw [h]; trivial)) (upd_ne ?_) (TpE.soft (by rw [h]; trivial))
  intro z; subst z; exact (v b d e).ne h
theorem Tp.new {o : HO} (h : H a = none) : Tp K H (upd H a o) := Tp.put (by rw [h]; trivial)
end
abbrev Env' := List (Option Dv)
structure RepE (K : PySem.W.Frag) (H : Hp) (ρ : Env') (σ : L2.St) : Prop where
  len : ρ.length = σ.length
  at' : ∀ (i : Nat) (d : Dv), ρ[i]? = some (some d) → ∃ v, σ[i]? = some (some v) ∧ Rep K H d v
section
variable {K : PySem.W.Frag} {H H' : Hp} {ρ : Env'} {σ : L2.St}
theorem RepE.mono (r : RepE K H ρ σ) (t : Tp K H H') : RepE K H' ρ σ := ⟨r.len, fun i d e => let ⟨v, h, q⟩ := r.at' i d e; ⟨v, h, q.mono t⟩⟩
theorem RepE.set {d : Dv} {v : V} (r : RepE K H ρ σ) (i : Nat) (q : Rep K H d v) : RepE K H (ρ.set i (some d)) (σ.set i (some v)) := by
  refine ⟨by simp [r.len], fun j e h => ?_⟩
  by_cases hj : i = j
  · subst hj
    have hl : i < ρ.length := by
      have := (List.getElem?_eq_some_iff.mp h).1
      simpa using this
    rw [List.getElem?_set_self hl] at h
    cases h
    exact ⟨v, List.getElem?_set_self (by rw [← r.len]; exact hl), q⟩
  · rw [List.getElem?_set_ne hj] at h
    obtain ⟨w, h1, h2⟩ := r.at' j e h
    exact ⟨w, by rw [List.getElem?_set_ne hj]; exact h1, h2⟩
theorem RepE.drop (r : RepE K H ρ σ) (i : Nat) (x : Option V) : RepE K H (ρ.set i none) (σ.set i x) := by
  refine ⟨by simp [r.len], fun j e h => ?_⟩
  by_cases hj : i = j
  · subst hj
    have hl : i < ρ.length := by
      have := (List.getElem?_eq_some_iff.mp h).1
      simpa using this
    rw [List.getElem?_set_self hl] at h
    cases h
  · rw [List.getElem?_set_ne hj] at h
    obtain ⟨w, h1, h2⟩ := r.at' j e h
    exact ⟨w, by rw [List.getElem?_set_ne hj]; exact h1, h2⟩
def wipeA (ρ : Env') : List Nat → Env'
  | [] => ρ
  | v :: vs => (wipeA ρ vs).set v none
theorem RepE.wipe (r : RepE K H ρ σ) : ∀ (vs : List Nat), RepE K H (wipeA ρ vs) (wipe σ vs)
  | [] => r
  | v :: vs => (RepE.wipe r vs).drop v none
end
def SubE : Env' → Env' → Prop
  | [], [] => True
  | none :: r, _ :: r' => SubE r r'
  | some d :: r, y :: r' => y = some d ∧ SubE r r'
  | _, _ => False
theorem SubE.refl : ∀ (ρ : Env'), SubE ρ ρ
  | [] => True.intro
  | none :: r => SubE.refl r
  | some d :: r => ⟨rfl, SubE.refl r⟩
theorem SubE.rep {K : PySem.W.Frag} {H : Hp} : ∀ {ρ ρ' : Env'} {σ : L2.St}, SubE ρ ρ' → RepE K H ρ' σ → RepE K H ρ σ := fun {ρ ρ' σ} h r => by
  have len : ∀ {ρ ρ' : Env'}, SubE ρ ρ' → ρ.length = ρ'.length := by
    intro ρ
    induction ρ with
    | nil => intro ρ' h; cases ρ' with
      | nil => rfl
      | cons _ _ => exact h.elim
    | cons x r ih => intro ρ' h; cases ρ' with
      | nil => cases x <;> exact h.elim
      | cons y r' =>
        cases x with
        | none => simp [ih (show SubE r r' from h)]
        | some d => simp [ih (show SubE r r' from h.2)]
  have get : ∀ {ρ ρ' : Env'}, SubE ρ ρ' → ∀ (i : Nat) (d : Dv), ρ[i]? = some (some d) → ρ'[i]? = some (some d) := by
    intro ρ
    induction ρ with
    | nil => intro ρ' h i d e; simp at e
    | cons x r ih => intro ρ' h i d e; cases ρ' with
      | nil => cases x <;> exact h.elim
      | cons y r' =>
        cases x with
        | none =>
          cases i with
          | zero => simp at e
          | succ i => simpa using ih (show SubE r r' from h) i d (by simpa using e)
        | some f =>
          cases i with
          | zero => simp at e; subst e; simp [h.1]
          | succ i => simpa using ih (show SubE r r' from h.2) i d (by simpa using e)
  exact ⟨(len h).trans r.len, fun i d e => r.at' i d (get h i d e)⟩
def startA (n : Nat) (ds : List Dv) : Env' := ds.map some ++ List.replicate (n - ds.length) none
theorem repE_start {K : PySem.W.Frag} {H : Hp} {N : List Str} {ds : List Dv} {vs : List V} (h : Reps K H ds vs) : RepE K H (startA N.length ds) (L2.start N vs) := by
  have hl := h.length
  refine ⟨by simp [startA, L2.start, hl], fun i d e => ?_⟩
  unfold startA at e
  unfold L2.start
  by_cases hi : i < ds.length
  · rw [List.getElem?_append_left (by simpa using hi), List.getElem?_map] at e
    cases q : ds[i]? with
    | none => rw [q] at e; cases e
    | some d' =>
      rw [q] at e; cases e
      obtain ⟨v, h1, h2⟩ := h.get q
      refine ⟨v, ?_, h2⟩
      rw [List.getElem?_append_left (by simpa [← hl] using hi), List.getElem?_map, h1]; rfl
  · rw [List.getElem?_append_right (by simpa using hi), List.getElem?_replicate] at e
    split at e <;> cases e
abbrev DK := Dv → Ms → Prop
abbrev RE := Env' → Ms → DK → Prop
abbrev RT := Env' → Ms → (Bool → Ms → Prop) → Prop
abbrev RA := Env' → Ms → (List Dv → Ms → Prop) → Prop
structure Ends' where
  nx : Env' → Ms → Prop
  rt : DK
  bk : Env' → Ms → Prop := fun _ _ => False
  ct : Env' → Ms → Prop := fun _ _ => False
abbrev RS := Ends' → Env' → Ms → Prop
def wk (N : Env' → Ms → Prop) : Env' → Ms → Prop := fun ρ M => ∃ ρ' M', SubE ρ' ρ ∧ Sub M' M ∧ N ρ' M'
def wkM (N : Ms → Prop) : Ms → Prop := fun M => ∃ M', Sub M' M ∧ N M'
def onS {α : Type} (o : Option α) (Q : α → Prop) : Prop := match o with | some a => Q a | none => False
theorem onS_ex {α : Type} {o : Option α} {Q : α → Prop} (h : onS o Q) : ∃ a, o = some a ∧ Q a := by
  cases o with
  | none => exact h.elim
  | some a => exact ⟨a, rfl, h⟩
theorem onS_of {α : Type} {o : Option α} {Q : α → Prop} {a : α} (e : o = some a) (h : Q a) : onS o Q := by subst e; exact h
def onIf (b : Bool) (A B : Prop) : Prop := match b with | true => A | false => B
def onB (d : Dv) (Q : Bool → Prop) : Prop := match d with | .bl b => Q b | _ => False
theorem onB_ex {d : Dv} {Q : Bool → Prop} (h : onB d Q) : ∃ b, d = .bl b ∧ Q b := by
  cases d <;> first | exact h.elim | exact ⟨_, rfl, h⟩
def onI (d : Dv) (Q : Int → Prop) : Prop := match d with | .int b => Q b | _ => False
theorem onI_ex {d : Dv} {Q : Int → Prop} (h : onI d Q) : ∃ b, d = .int b ∧ Q b := by
  cases d <;> first | exact h.elim | exact ⟨_, rfl, h⟩
def onI2 (d f : Dv) (Q : Int → Int → Prop) : Prop := match d, f with | .int a, .int b => Q a b | _, _ => False
theorem onI2_ex {d f : Dv} {Q : Int → Int → Prop} (h : onI2 d f Q) : ∃ a b, d = .int a ∧ f = .int b ∧ Q a b := by
  cases d <;> first | exact h.elim | skip
  cases f <;> first | exact h.elim | exact ⟨_, _, rfl, rfl, h⟩
def LkV (K : PySem.W.Frag) (H : Hp) (Q : DK) (Q' : VK) : Prop := ∀ v H' d M', Tp K H H' → Rep K H' d v → View K M' H' → Q d M' → Q' v H'
def LkB (K : PySem.W.Frag) (H : Hp) (Q : Bool → Ms → Prop) (Q' : Bool → Hp → Prop) : Prop := ∀ b H' M', Tp K H H' → View K M' H' → Q b M' → Q' b H'
def LkA (K : PySem.W.Frag) (H : Hp) (Q : List Dv → Ms → Prop) (Q' : List V → Hp → Prop) : Prop := ∀ vs H' ds M', Tp K H H' → Reps K H' ds vs → View K M' H' → Q ds M' → Q' vs H'
def LkS (K : PySem.W.Frag) (H : Hp) (Q : Env' → Ms → Prop) (Q' : L2.St → Hp → Prop) : Prop := ∀ σ H' ρ M', Tp K H H' → RepE K H' ρ σ → View K M' H' → Q ρ M' → Q' σ H'
structure LkD (K : PySem.W.Frag) (H : Hp) (D : Ends') (D' : Ends) : Prop where
  nx : LkS K H D.nx D'.nx
  rt : LkV K H D.rt D'.rt
  bk : LkS K H D.bk D'.bk
  ct : LkS K H D.ct D'.ct
section
variable {K : PySem.W.Frag} {H H1 : Hp}
theorem LkV.up {Q : DK} {Q' : VK} (l : LkV K H Q Q') (t : Tp K H H1) : LkV K H1 Q Q' := fun v H' d M' t' => l v H' d M' (t.trans t')
theorem LkB.up {Q : Bool → Ms → Prop} {Q' : Bool → Hp → Prop} (l : LkB K H Q Q') (t : Tp K H H1) : LkB K H1 Q Q' := fun v H' M' t' => l v H' M' (t.trans t')
theorem LkA.up {Q : List Dv → Ms → Prop} {Q' : List V → Hp → Prop} (l : LkA K H Q Q') (t : Tp K H H1) : LkA K H1 Q Q' := fun v H' d M' t' => l v H' d M' (t.trans t')
theorem LkS.up {Q : Env' → Ms → Prop} {Q' : L2.St → Hp → Prop} (l : LkS K H Q Q') (t : Tp K H H1) : LkS K H1 Q Q' := fun v H' d M' t' => l v H' d M' (t.trans t')
theorem LkD.up {D : Ends'} {D' : Ends} (l : LkD K H D D') (t : Tp K H H1) : LkD K H1 D D' := ⟨l.nx.up t, l.rt.up t, l.bk.up t, l.ct.up t⟩
end
def cE (K : PySem.W.Frag) (t : RE) : TE := fun σ H Q' => ∃ ρ M Q, RepE K H ρ σ ∧ View K M H ∧ t ρ M Q ∧ LkV K H Q Q'
def cT (K : PySem.W.Frag) (t : RT) : TT := fun σ H Q' => ∃ ρ M Q, RepE K H ρ σ ∧ View K M H ∧ t ρ M Q ∧ LkB K H Q Q'
def cA (K : PySem.W.Frag) (t : RA) : TA := fun σ H Q' => ∃ ρ M Q, RepE K H ρ σ ∧ View K M H ∧ t ρ M Q ∧ LkA K H Q Q'
def cS (K : PySem.W.Frag) (t : RS) : TS := fun D' σ H => ∃ ρ M D, RepE K H ρ σ ∧ View K M H ∧ t D ρ M ∧ LkD K H D D'
def AE (X : Cx) (e : Expr) (t : RE) : Prop := PE X e (cE X.K t)
def AT (X : Cx) (e : Expr) (t : RT) : Prop := PT X e (cT X.K t)
def AW (X : Cx) (e : Expr) (t : RT) : Prop := PW X e (cT X.K t)
def AA (X : Cx) (es : List Expr) (t : RA) : Prop := PA X es (cA X.K t)
def AS (X : Cx) (st : Stmt) (t : RS) : Prop := PS X st (cS X.K t)
def ASs (X : Cx) (sts : List Stmt) (t : RS) : Prop := PSs X sts (cS X.K t)
theorem pe_imp {X : Cx} {e : Expr} {t t' : TE} (h : PE X e t) (f : ∀ σ H Q, t' σ H Q → t σ H Q) : PE X e t' := ⟨fun pins s σ H Q I q => h.run pins s σ H Q I (f _ _ _ q)⟩
theorem pt_imp {X : Cx} {e : Expr} {t t' : TT} (h : PT X e t) (f : ∀ σ H Q, t' σ H Q → t σ H Q) : PT X e t' := ⟨fun pins s σ H Q I q => h.run pins s σ H Q I (f _ _ _ q)⟩
theorem pw_imp {X : Cx} {e : Expr} {t t' : TT} (h : PW X e t) (f : ∀ σ H Q, t' σ H Q → t σ H Q) : PW X e t' := ⟨fun wh pins s σ H Q I q => h.run wh pins s σ H Q I (f _ _ _ q)⟩
theorem pa_imp {X : Cx} {e : List Expr} {t t' : TA} (h : PA X e t) (f : ∀ σ H Q, t' σ H Q → t σ H Q) : PA X e t' := ⟨fun pos pins s σ H Q I q => h.run pos pins s σ H Q I (f _ _ _ q)⟩
theorem ps_imp {X : Cx} {e : Stmt} {t t' : TS} (h : PS X e t) (f : ∀ D σ H, t' D σ H → t D σ H) : PS X e t' := ⟨fun pins s σ H D I q => h.run pins s σ H D I (f _ _ _ q)⟩
theorem pss_imp {X : Cx} {e : List Stmt} {t t' : TS} (h : PSs X e t) (f : ∀ D σ H, t' D σ H → t D σ H) : PSs X e t' := ⟨fun pins s σ H D I q => h.run pins s σ H D I (f _ _ _ q)⟩
section
variable {X : Cx} {a b c e : Expr} {ta tb tc te : RE} {pos : Pos}
def aC (d : Dv) : RE := fun _ M Q => Q d M
def aVar (i : Nat) : RE := fun ρ M Q => onS ρ[i]? fun o => onS o fun d => Q d M
theorem ae_c {d : Dv} {v : V} (h : PE X e (tC v)) (r : ∀ H, Rep X.K H d v) : AE X e (aC d) := pe_imp h fun σ H Q ⟨ρ, M, Q1, _, hv, q, k⟩ => k v H d M (Tp.refl H) (r H) hv q
theorem ae_int {i j pos} : AE X (.Constant (.int i) j pos) (aC (.int i)) := ae_c pe_int fun _ => by simp only [Rep]
theorem ae_bl {b j pos} : AE X (.Constant (.bool b) j pos) (aC (.bl b)) := ae_c pe_bl fun _ => by simp only [Rep]
theorem ae_non {j pos} : AE X (.Constant .none j pos) (aC .non) := ae_c pe_non fun _ => by simp only [Rep]
theorem av (i : Nat) {x : Str} (hN : X.N[i]? = some x := by rfl) (hv : Vis X.env.scope x := by first | exact Or.inl rfl | exact Or.inr (Or.inl rfl) | exact Or.inr (Or.inr rfl)) (hd : (x == ("__debug__" : Str)) = false := by decide)
    (hcd : (x == ("__classdict__" : Str)) = false := by decide) : AE X (.Name x pos) (aVar i) :=
  pe_imp (pe_var hN hv hd hcd) fun σ H Q ⟨ρ, M, Q1, hr, hv, q, k⟩ => by
    obtain ⟨o, e, q⟩ := onS_ex q
    obtain ⟨d, e', q⟩ := onS_ex q
    subst e'
    obtain ⟨v, h1, h2⟩ := hr.at' i d e
    exact ⟨v, h1, k v H d M (Tp.refl H) h2 hv q⟩
theorem ae_gty {x : Str} {n : String} (hg : Gl X x) (hm : X.mg x = none) (hv : bootBuiltins x = some (.type n)) (hn : x ≠ "__name__" := by decide) (hd : (x == ("__debug__" : Str)) = false := by decide) : AE X (.Name x pos) (aC (.ty n)) :=
  ae_c (pe_bltn hg hm hv (v := .ty n) rfl hn hd) fun _ => by simp only [Rep]
theorem seqE {K : PySem.W.Frag} {ρ : Env'} {σ : L2.St} {M : Ms} {H : Hp} {t : RE} {Q : DK} {Q' : VK} (hr : RepE K H ρ σ) (hv : View K M H) (h : t ρ M Q) (k : LkV K H Q Q') : cE K t σ H Q' := ⟨ρ, M, Q, hr, hv, h, k⟩
abbrev AR2 := Dv → Dv → Ms → DK → Prop
def Ab2 (K : PySem.W.Frag) (r : R2) (ar : AR2) : Prop := ∀ H M x y dx dy Q Q', Rep K H dx x → Rep K H dy y → View K M H → ar dx dy M Q → LkV K H Q Q' → r x y H Q'
def aOp (ar : AR2) (ta tb : RE) : RE := fun ρ M Q => ta ρ M fun x M1 => tb ρ M1 fun y M2 => ar x y M2 Q
theorem aop_imp {K : PySem.W.Frag} {r : R2} {ar : AR2} (h : Ab2 K r ar) : ∀ σ H Q, cE K (aOp ar ta tb) σ H Q → tOp r (cE K ta) (cE K tb) σ H Q := fun σ H Q' ⟨ρ, M, Q, hr, hv, q, k⟩ =>
  seqE hr hv q fun v H1 d M1 t1 r1 v1 q1 => seqE (hr.mono t1) v1 q1 fun v2 H2 d2 M2 t2 r2 v2' q2 => h H2 M2 v v2 d d2 Q Q' (r1.mono t2) r2 v2' q2 (k.up (t1.trans t2))
theorem ae_op {op : Operator} {r : R2} {ar : AR2} (ho : OpR X (binaryOp op) r) (h : Ab2 X.K r ar) (ha : AE X a ta) (hb : AE X b tb) : AE X (.BinOp a op b pos) (aOp ar ta tb) := pe_imp (pe_op ho ha hb) (aop_imp h)
theorem ae_cmp {op : CmpOp} {r : R2} {ar : AR2} (ho : OpR X (compareOp op) r) (h : Ab2 X.K r ar) (ha : AE X a ta) (hb : AE X b tb) (hm : behindInMarks op b = false) : AE X (.Compare a [op] [b] pos) (aOp ar ta tb) := pe_imp (pe_cmpR ho ha hb hm) (aop_imp h)
def aB (t : RE) : RT := fun ρ M Q => t ρ M fun d M1 => onB d fun b => Q b M1
theorem at_cmp {op : CmpOp} {r : R2} {ar : AR2} (ho : OpR X (compareOp op) r) (h : Ab2 X.K r ar) (ha : AE X a ta) (hb : AE X b tb) (hm : behindInMarks op b = false) : AT X (.Compare a [op] [b] pos) (aB (aOp ar ta tb)) :=
  pt_imp (pt_cmpR ho ha hb hm) fun σ H Q' h' => by
    obtain ⟨ρ, M, Q, hr, hv, q, k⟩ := h'
    exact aop_imp h σ H _ ⟨ρ, M, _, hr, hv, q, fun v H1 d M1 t1 r1 v1 q1 => by
      obtain ⟨b, e, q1⟩ := onB_ex q1
      exact ⟨b, by subst e; simpa only [Rep] using r1, k b H1 M1 t1 v1 q1⟩⟩
def truA : Dv → Ms → Option Bool
  | .non, _ => some false
  | .bl b, _ => some b
  | .int i, _ => some (i != 0)
  | .tup xs, _ => some (!xs.isEmpty)
  | .rol xs, _ => some (!xs.isEmpty)
  | .ref a, M => match M a with | some (.lst xs) => some (!xs.isEmpty) | some (.dic xs) => some (!xs.isEmpty) | _ => none
  | _, _ => none
def aTru (t : RE) : RT := fun ρ M Q => t ρ M fun d M1 => onS (truA d M1) fun b => Q b M1
theorem Reps.isEmpty {K : PySem.W.Frag} {H : Hp} {ds : List Dv} {vs : List V} (h : Reps K H ds vs) : vs.isEmpty = ds.isEmpty := by
  have := h.length
  cases ds <;> cases vs <;> simp at this ⊢
theorem paired_isEmpty {α β : Type} {R : α → β → Prop} {l : List α} {m : List β} (h : Paired R l m) : m.isEmpty = l.isEmpty := by
  cases h <;> rfl
theorem truA_ok {K : PySem.W.Frag} {M : Ms} {H : Hp} {d : Dv} {v : V} {b : Bool} (r : Rep K H d v) (hv : View K M H) (h : truA d M = some b) : TruV K v H b := by
  cases d with
  | non => simp only [Rep] at r; subst r; simp only [truA, Option.some.injEq] at h; exact h.symm
  | bl k => simp only [Rep] at r; subst r; simp only [truA, Option.some.injEq] at h; exact h.symm
  | int i => simp only [Rep] at r; subst r; simp only [truA, Option.some.injEq] at h; exact h.symm
  | str i => simp [truA] at h
  | ty i => simp [truA] at h
  | tuc i => simp [truA] at h
  | exc i j => simp [truA] at h
  | tup ds =>
    simp only [Rep] at r
    obtain ⟨a, vs, rfl, q, z⟩ := r
    simp only [truA, Option.some.injEq] at h
    exact .inr (.inl ⟨vs, q, by rw [z.isEmpty]; exact h.symm⟩)
  | rol ds =>
    simp only [Rep] at r
    obtain ⟨a, vs, rfl, q, z⟩ := r
    simp only [truA, Option.some.injEq] at h
    exact .inl ⟨vs, q.l, by rw [z.isEmpty]; exact h.symm⟩
  | ref a =>
    simp only [Rep] at r; subst r
    simp only [truA] at h
    cases e : M a with
    | none => rw [e] at h; cases h
    | some c =>
      rw [e] at h
      cases c with
      | lst xs =>
        obtain ⟨vs, h1, h2⟩ := hv a _ e
        simp only [Option.some.injEq] at h
        exact .inl ⟨vs, .inl (.inl h1), by rw [h2.isEmpty]; exact h.symm⟩
      | dic xs =>
        obtain ⟨vs, h1, h2⟩ := hv a _ e
        simp only [Option.some.injEq] at h
        exact .inr (.inr ⟨vs, h1, by rw [paired_isEmpty h2]; exact h.symm⟩)
      | dit xs => cases h
      | fdc xs => cases h
      | obj C xs => cases h
      | tab xs => cases h
      | cod q => cases h
theorem at_tru (h : AE X e te) (he : ∀ whole, isTrue e X.env whole = (do let v ← whole; standAt e.pos; holding [v] (truthy v)) := by intro _; rfl) : AT X e (aTru te) :=
  pt_imp (pt_truth h he) fun σ H Q' ⟨ρ, M, Q, hr, hv, q, k⟩ => seqE hr hv q fun v H1 d M1 t1 r1 v1 q1 => by
    obtain ⟨b, e, q1⟩ := onS_ex q1
    exact ⟨b, truA_ok r1 v1 e, k b H1 M1 t1 v1 q1⟩
def aAnd (t u : RT) : RT := fun ρ M Q => t ρ M fun b M1 => onIf b (u ρ M1 Q) (Q false M1)
def aOr (t u : RT) : RT := fun ρ M Q => t ρ M fun b M1 => onIf b (Q true M1) (u ρ M1 Q)
def aNot (t : RT) : RT := fun ρ M Q => t ρ M fun b M1 => Q (!b) M1
theorem seqT {K : PySem.W.Frag} {ρ : Env'} {σ : L2.St} {M : Ms} {H : Hp} {t : RT} {Q : Bool → Ms → Prop} {Q' : Bool → Hp → Prop} (hr : RepE K H ρ σ) (hv : View K M H) (h : t ρ M Q) (k : LkB K H Q Q') : cT K t σ H Q' := ⟨ρ, M, Q, hr, hv, h, k⟩
variable {tA tBb : RT} {rest : List Expr}
theorem AW.pt (h : AW X e tA) : AT X e tA := PW.pt h
theorem aw_and1 (ha : AT X a tA) : AW X (.BoolOp .And [a] pos) tA := pw_and1 ha
theorem aw_or1 (ha : AT X a tA) : AW X (.BoolOp .Or [a] pos) tA := pw_or1 ha
theorem aw_and (ha : AT X a tA) (hb : AW X (.BoolOp .And (b :: rest) pos) tBb) : AW X (.BoolOp .And (a :: b :: rest) pos) (aAnd tA tBb) :=
  pw_imp (pw_and ha hb) fun σ H Q' ⟨ρ, M, Q, hr, hv, q, k⟩ => seqT hr hv q fun b H1 M1 t1 v1 q1 => by
    cases b with
    | true => exact seqT (hr.mono t1) v1 q1 (k.up t1)
    | false => exact k _ _ _ t1 v1 q1
theorem aw_or (ha : AT X a tA) (hb : AW X (.BoolOp .Or (b :: rest) pos) tBb) : AW X (.BoolOp .Or (a :: b :: rest) pos) (aOr tA tBb) :=
  pw_imp (pw_or ha hb) fun σ H Q' ⟨ρ, M, Q, hr, hv, q, k⟩ => seqT hr hv q fun b H1 M1 t1 v1 q1 => by
    cases b with
    | false => exact seqT (hr.mono t1) v1 q1 (k.up t1)
    | true => exact k _ _ _ t1 v1 q1
theorem at_not (ha : AT X a tA) : AT X (.UnaryOp .Not a pos) (aNot tA) :=
  pt_imp (pt_not ha) fun σ H Q' ⟨ρ, M, Q, hr, hv, q, k⟩ => seqT hr hv q fun b H1 M1 t1 v1 q1 => k _ _ _ t1 v1 q1
def aAndV (t u : RE) : RE := fun ρ M Q => t ρ M fun x M1 => onB x fun b => onIf b (u ρ M1 Q) (Q (.bl false) M1)
def aNotV (t : RE) : RE := fun ρ M Q => t ρ M fun x M1 => onB x fun b => Q (.bl (!b)) M1
theorem rep_bl {K : PySem.W.Frag} {H : Hp} {b : Bool} : Rep K H (.bl b) (.bl b) := by simp only [Rep]
theorem rep_int {K : PySem.W.Frag} {H : Hp} {i : Int} : Rep K H (.int i) (.int i) := by simp only [Rep]
theorem rep_str {K : PySem.W.Frag} {H : Hp} {i : Str} : Rep K H (.str i) (.str i) := by simp only [Rep]
theorem rep_non {K : PySem.W.Frag} {H : Hp} : Rep K H .non .non := by simp only [Rep]
theorem rep_ref {K : PySem.W.Frag} {H : Hp} {a : Addr} : Rep K H (.ref a) (.ref a) := by simp only [Rep]
theorem rep_tup {K : PySem.W.Frag} {H : Hp} {a : Addr} {vs : List V} {ds : List Dv} (h : SqT K H a vs) (r : Reps K H ds vs) : Rep K H (.tup ds) (.ref a) := by
  simp only [Rep]; exact ⟨a, vs, rfl, h, r⟩
theorem ae_and1 (ha : AE X a ta) : AE X (.BoolOp .And [a] pos) ta := pe_one ha
theorem ae_and (ha : AE X a ta) (hb : AE X (.BoolOp .And (b :: rest) pos) tb) : AE X (.BoolOp .And (a :: b :: rest) pos) (aAndV ta tb) :=
  pe_imp (pe_and ha hb) fun σ H Q' ⟨ρ, M, Q, hr, hv, q, k⟩ => seqE hr hv q fun v H1 d M1 t1 r1 v1 q1 => by
    obtain ⟨b, e, q1⟩ := onB_ex q1
    subst e
    refine ⟨b, by simpa only [Rep] using r1, ?_⟩
    cases b with
    | true => exact seqE (hr.mono t1) v1 q1 (k.up t1)
    | false => exact k _ _ _ _ t1 rep_bl v1 q1
theorem ae_not (ha : AE X a ta) : AE X (.UnaryOp .Not a pos) (aNotV ta) :=
  pe_imp (pe_not ha) fun σ H Q' ⟨ρ, M, Q, hr, hv, q, k⟩ => seqE hr hv q fun v H1 d M1 t1 r1 v1 q1 => by
    obtain ⟨b, e, q1⟩ := onB_ex q1
    subst e
    exact ⟨b, by simpa only [Rep] using r1, k _ _ _ _ t1 rep_bl v1 q1⟩
def aIf (t : RT) (ta tb : RE) : RE := fun ρ M Q => t ρ M fun b M1 => onIf b (ta ρ M1 Q) (tb ρ M1 Q)
theorem ae_if (hc : AT X c tA) (ha : AE X a ta) (hb : AE X b tb) : AE X (.IfExp c a b pos) (aIf tA ta tb) :=
  pe_imp (pe_ifExp hc ha hb) fun σ H Q' ⟨ρ, M, Q, hr, hv, q, k⟩ => seqT hr hv q fun b H1 M1 t1 v1 q1 => by
    cases b with
    | true => exact seqE (hr.mono t1) v1 q1 (k.up t1)
    | false => exact seqE (hr.mono t1) v1 q1 (k.up t1)
end
section
variable {X : Cx}
def arI (C : Int → Int → Prop) (g : Int → Int → Dv) : AR2 := fun x y M Q => onI2 x y fun i j => C i j ∧ Q (g i j) M
def arI0 (g : Int → Int → Dv) : AR2 := fun x y M Q => onI2 x y fun i j => Q (g i j) M
theorem ab_I {K : PySem.W.Frag} {C : Int → Int → Prop} {g : Int → Int → Int} : Ab2 K (rI C fun i j => .int (g i j)) (arI C fun i j => .int (g i j)) := fun H M x y dx dy Q Q' rx ry hv q0 k => by
  obtain ⟨i, j, e1, e2, hc, q⟩ := onI2_ex q0
  subst e1 e2
  exact ⟨i, j, by simpa only [Rep] using rx, by simpa only [Rep] using ry, hc, k _ _ _ _ (Tp.refl H) rep_int hv q⟩
theorem ab_I0 {K : PySem.W.Frag} {g : Int → Int → Int} : Ab2 K (rI0 fun i j => .int (g i j)) (arI0 fun i j => .int (g i j)) := fun H M x y dx dy Q Q' rx ry hv q0 k => by
  obtain ⟨i, j, e1, e2, q⟩ := onI2_ex q0
  subst e1 e2
  exact ⟨i, j, by simpa only [Rep] using rx, by simpa only [Rep] using ry, k _ _ _ _ (Tp.refl H) rep_int hv q⟩
theorem ab_B0 {K : PySem.W.Frag} {g : Int → Int → Bool} : Ab2 K (rI0 fun i j => .bl (g i j)) (arI0 fun i j => .bl (g i j)) := fun H M x y dx dy Q Q' rx ry hv q0 k => by
  obtain ⟨i, j, e1, e2, q⟩ := onI2_ex q0
  subst e1 e2
  exact ⟨i, j, by simpa only [Rep] using rx, by simpa only [Rep] using ry, k _ _ _ _ (Tp.refl H) rep_bl hv q⟩
variable {a b : Expr} {ta tb : RE} {pos : Pos}
theorem div_wide {i j : Int} (h : 0 < j ∧ j < 1000000000000000000000000) : CDivW i j := by
  refine wide_div (b := 90) h.1 ?_ (by decide) (by decide)
  have e : (2 : Nat) ^ 90 = 1237940039285380274899124224 := by decide
  rw [e]
  omega
theorem ab_div {K : PySem.W.Frag} : Ab2 K (rI CDivW fun i j => .int (i / j)) (arI (fun _ j => 0 < j ∧ j < 1000000000000000000000000) fun i j => .int (i / j)) := fun H M x y dx dy Q Q' rx ry hv q0 k => by
  obtain ⟨i, j, e1, e2, hc, q⟩ := onI2_ex q0
  subst e1 e2
  exact ⟨i, j, by simpa only [Rep] using rx, by simpa only [Rep] using ry, div_wide hc, k _ _ _ _ (Tp.refl H) rep_int hv q⟩
def aSub := arI0 fun i j => .int (i - j)
def aMod := arI (fun _ j => 0 < j) fun i j => .int (i % j)
def aDiv := arI (fun _ j => 0 < j ∧ j < 1000000000000000000000000) fun i j => .int (i / j)
def aPow := arI CPow fun i j => .int (i ^ j.toNat)
def aLt := arI0 fun i j => .bl (decide (i < j))
def aLe := arI0 fun i j => .bl (decide (i ≤ j))
def aGt := arI0 fun i j => .bl (decide (j < i))
def aGe := arI0 fun i j => .bl (decide (j ≤ i))
theorem ae_sub (ha : AE X a ta) (hb : AE X b tb) : AE X (.BinOp a .Sub b pos) (aOp aSub ta tb) := ae_op op_sub ab_I0 ha hb
theorem ae_mod (ha : AE X a ta) (hb : AE X b tb) : AE X (.BinOp a .Mod b pos) (aOp aMod ta tb) := ae_op op_mod ab_I ha hb
theorem ae_div (ha : AE X a ta) (hb : AE X b tb) : AE X (.BinOp a .FloorDiv b pos) (aOp aDiv ta tb) := ae_op op_fdivW ab_div ha hb
theorem ae_pow (ha : AE X a ta) (hb : AE X b tb) : AE X (.BinOp a .Pow b pos) (aOp aPow ta tb) := ae_op op_pow ab_I ha hb
theorem ae_lt (ha : AE X a ta) (hb : AE X b tb) : AE X (.Compare a [.Lt] [b] pos) (aOp aLt ta tb) := ae_cmp op_lt ab_B0 ha hb (nomark _)
theorem at_lt (ha : AE X a ta) (hb : AE X b tb) : AT X (.Compare a [.Lt] [b] pos) (aB (aOp aLt ta tb)) := at_cmp op_lt ab_B0 ha hb (nomark _)
theorem at_gt (ha : AE X a ta) (hb : AE X b tb) : AT X (.Compare a [.Gt] [b] pos) (aB (aOp aGt ta tb)) := at_cmp op_gt ab_B0 ha hb (nomark _)
theorem at_ge (ha : AE X a ta) (hb : AE X b tb) : AT X (.Compare a [.GtE] [b] pos) (aB (aOp aGe ta tb)) := at_cmp op_ge ab_B0 ha hb (nomark _)
end
end HC
set_option maxHeartbeats 4000000
namespace HC
open PySem L2 PyProof.Rows
section
variable {X : Cx} {e : Expr} {es : List Expr} {te : RE} {t : RA} {pos : Pos}
def aNil : RA := fun _ M Q => Q [] M
def aCons (te : RE) (t : RA) : RA := fun ρ M Q => te ρ M fun d M1 => t ρ M1 fun ds M2 => Q (d :: ds) M2
theorem seqA {K : PySem.W.Frag} {ρ : Env'} {σ : L2.St} {M : Ms} {H : Hp} {t : RA} {Q : List Dv → Ms → Prop} {Q' : List V → Hp → Prop} (hr : RepE K H ρ σ) (hv : View K M H) (h : t ρ M Q) (k : LkA K H Q Q') : cA K t σ H Q' := ⟨ρ, M, Q, hr, hv, h, k⟩
theorem aa_nil : AA X [] aNil := pa_imp pa_nil fun σ H Q' ⟨ρ, M, Q, hr, hv, q, k⟩ => k [] H [] M (Tp.refl H) Reps.nil hv q
theorem aa_cons (ha : AE X e te) (hr : AA X es t) (hs : starEach (e :: es) X.env = (false, eval e X.env) :: starEach es X.env := by rfl) : AA X (e :: es) (aCons te t) :=
  pa_imp (pa_cons ha hr hs) fun σ H Q' ⟨ρ, M, Q, hr, hv, q, k⟩ => seqE hr hv q fun v H1 d M1 t1 r1 v1 q1 => seqA (hr.mono t1) v1 q1 fun vs H2 ds M2 t2 r2 v2 q2 => k (v :: vs) H2 (d :: ds) M2 (t1.trans t2) (Reps.cons (r1.mono t2) r2) v2 q2
def aTup (t : RA) : RE := fun ρ M Q => t ρ M fun ds M1 => ds.length ≤ sizeLine ∧ Q (.tup ds) M1
def aLst (t : RA) : RE := fun ρ M Q => t ρ M fun ds M1 => ds.length ≤ sizeLine ∧ ∀ p, M1 p = none → Q (.ref p) (mup M1 p (.lst ds))
theorem end_tup {K : PySem.W.Frag} {H : Hp} {M : Ms} {vs : List V} {ds : List Dv} {Q : DK} {Q' : VK} (r : Reps K H ds vs) (hv : View K M H) (q : Q (.tup ds) M) (k : LkV K H Q Q') : ∀ p, H p = none → Q' (.ref p) (upd H p (.tup vs)) := fun p hp =>
  k _ _ (.tup ds) M (Tp.new hp) (rep_tup (.inl (.inl upd_same)) (r.mono (Tp.new hp))) (hv.new hp) q
theorem end_lst {K : PySem.W.Frag} {H : Hp} {M : Ms} {vs : List V} {ds : List Dv} {Q : DK} {Q' : VK} (r : Reps K H ds vs) (hv : View K M H) (q : ∀ p, M p = none → Q (.ref p) (mup M p (.lst ds))) (k : LkV K H Q Q') : ∀ p, H p = none → Q' (.ref p) (upd H p (.lst vs)) := fun p hp =>
  k _ _ (.ref p) _ (Tp.new hp) rep_ref (hv.put (c := .lst ds) (by rw [hp]; trivial) ⟨vs, upd_same, r.mono (Tp.new hp)⟩) (q p (hv.free hp))
theorem ae_tup {x1} (h : AA X es t) : AE X (.Tuple es x1 pos) (aTup t) := pe_imp (pe_tup h) fun σ H Q' ⟨ρ, M, Q, hr, hv, q, k⟩ => seqA hr hv q fun vs H1 ds M1 t1 r1 v1 ⟨z, q1⟩ =>
  ⟨by rw [← r1.length]; exact z, end_tup r1 v1 q1 (k.up t1)⟩
theorem ae_lst (h : AA X es t) : AE X (.List es pos) (aLst t) := pe_imp (pe_lst h) fun σ H Q' ⟨ρ, M, Q, hr, hv, q, k⟩ => seqA hr hv q fun vs H1 ds M1 t1 r1 v1 ⟨z, q1⟩ =>
  ⟨by rw [← r1.length]; exact z, end_lst r1 v1 q1 (k.up t1)⟩
end
section
variable {X : Cx}
theorem opr_or {f : Value → Value → Sem Value} {r r' : R2} (h : OpR X f r) (h' : OpR X f r') : OpR X f (fun x y H Q => r x y H Q ∨ r' x y H Q) := by
  intro pins s σ H x y v u Q I rx ry q
  rcases q with q | q
  · exact h pins s σ H x y v u Q I rx ry q
  · exact h' pins s σ H x y v u Q I rx ry q
theorem rep_int_inv {K : PySem.W.Frag} {H : Hp} {i : Int} {v : V} (h : Rep K H (.int i) v) : v = .int i := by simpa only [Rep] using h
theorem rep_bl_inv {K : PySem.W.Frag} {H : Hp} {i : Bool} {v : V} (h : Rep K H (.bl i) v) : v = .bl i := by simpa only [Rep] using h
theorem rep_str_inv {K : PySem.W.Frag} {H : Hp} {i : Str} {v : V} (h : Rep K H (.str i) v) : v = .str i := by simpa only [Rep] using h
theorem rep_non_inv {K : PySem.W.Frag} {H : Hp} {v : V} (h : Rep K H .non v) : v = .non := by simpa only [Rep] using h
theorem rep_ref_inv {K : PySem.W.Frag} {H : Hp} {a : Addr} {v : V} (h : Rep K H (.ref a) v) : v = .ref a := by simpa only [Rep] using h
theorem rep_ty_inv {K : PySem.W.Frag} {H : Hp} {a : String} {v : V} (h : Rep K H (.ty a) v) : v = .ty a := by simpa only [Rep] using h
theorem rep_tup_inv {K : PySem.W.Frag} {H : Hp} {ds : List Dv} {v : V} (h : Rep K H (.tup ds) v) : ∃ a vs, v = .ref a ∧ SqT K H a vs ∧ Reps K H ds vs := by simpa only [Rep] using h
theorem rep_rol_inv {K : PySem.W.Frag} {H : Hp} {ds : List Dv} {v : V} (h : Rep K H (.rol ds) v) : ∃ a vs, v = .ref a ∧ SqF K H a vs ∧ Reps K H ds vs := by simpa only [Rep] using h
theorem view_lst {K : PySem.W.Frag} {M : Ms} {H : Hp} {a : Addr} {ds : List Dv} (hv : View K M H) (h : M a = some (.lst ds)) : ∃ vs, H a = some (.lst vs) ∧ Reps K H ds vs := hv a _ h
theorem rep_tuc_inv {K : PySem.W.Frag} {H : Hp} {ds : List Dv} {v : V} (h : Rep K H (.tuc ds) v) : ∃ a vs, v = .ref a ∧ SqC H a vs ∧ Reps K H ds vs := by simpa only [Rep] using h
theorem rep_exc_inv {K : PySem.W.Frag} {H : Hp} {c : Str} {f : Option Int} {v : V} (h : Rep K H (.exc c f) v) : ∃ a, v = .ref a ∧ SqX K H a c f := by simpa only [Rep] using h
def aAdd : AR2 := fun x y M Q => match x, y with
  | .int i, .int j => Q (.int (i + j)) M
  | .int i, .bl k => Q (.int (i + b2i k)) M
  | .str a, .str b => a.length + b.length ≤ sizeLine ∧ Q (.str (a ++ b)) M
  | .tup a, .tup b => a.length + b.length ≤ sizeLine ∧ Q (.tup (a ++ b)) M
  | .ref a, .ref b => ∃ xs ys, M a = some (.lst xs) ∧ M b = some (.lst ys) ∧ xs.length + ys.length ≤ sizeLine ∧ ∀ p, M p = none → Q (.ref p) (mup M p (.lst (xs ++ ys)))
  | _, _ => False
def rAddH (K : PySem.W.Frag) : R2 := fun x y H Q => (rI0 (fun i j => .int (i + j)) x y H Q ∨ (∃ i k, x = .int i ∧ y = .bl k ∧ Q (.int (i + b2i k)) H)) ∨ ((∃ i j, x = .str i ∧ y = .str j ∧ i.length + j.length ≤ sizeLine ∧ Q (.str (i ++ j)) H) ∨ (rCatA K x y H Q ∨ rCat x y H Q))
theorem op_addH : OpR X (binaryOp .Add) (rAddH X.K) := opr_or (opr_or op_add op_add_ib) (opr_or op_add_str (opr_or op_catA op_cat))
theorem ab_add {K : PySem.W.Frag} : Ab2 K (rAddH K) aAdd := by
  intro H M x y dx dy Q Q' rx ry hv q k
  cases dx <;> cases dy <;> first | exact q.elim | skip
  case int.int i j => exact .inl (.inl ⟨i, j, rep_int_inv rx, rep_int_inv ry, k _ _ _ _ (Tp.refl H) rep_int hv q⟩)
  case int.bl i j => exact .inl (.inr ⟨i, j, rep_int_inv rx, rep_bl_inv ry, k _ _ _ _ (Tp.refl H) rep_int hv q⟩)
  case str.str i j => exact .inr (.inl ⟨i, j, rep_str_inv rx, rep_str_inv ry, q.1, k _ _ _ _ (Tp.refl H) rep_str hv q.2⟩)
  case tup.tup ds es =>
    obtain ⟨a, vs, e1, s1, r1⟩ := rep_tup_inv rx
    obtain ⟨b, ws, e2, s2, r2⟩ := rep_tup_inv ry
    have l1 := r1.length
    have l2 := r2.length
    obtain ⟨z, q⟩ := q
    refine .inr (.inr (.inl ⟨a, b, vs, ws, e1, e2, s1, s2, by omega, fun h => ?_, fun _ h => ?_, fun _ _ => end_tup (r1.append r2) hv q k⟩))
    · subst h
      have : ds = [] := List.length_eq_zero_iff.mp l1
      subst this
      exact k _ _ _ _ (Tp.refl H) (rep_tup s2 r2) hv q
    · subst h
      have : es = [] := List.length_eq_zero_iff.mp l2
      subst this
      rw [List.append_nil] at q
      exact k _ _ _ _ (Tp.refl H) (rep_tup s1 r1) hv q
  case ref.ref a b =>
    obtain ⟨xs, ys, h1, h2, z, q⟩ := q
    obtain ⟨vs, e1, r1⟩ := view_lst hv h1
    obtain ⟨ws, e2, r2⟩ := view_lst hv h2
    have l1 := r1.length
    have l2 := r2.length
    exact .inr (.inr (.inr ⟨a, b, vs, ws, rep_ref_inv rx, rep_ref_inv ry, e1, e2, by omega, end_lst (r1.append r2) hv q k⟩))
variable {a b : Expr} {ta tb : RE} {pos : Pos}
theorem ae_add (ha : AE X a ta) (hb : AE X b tb) : AE X (.BinOp a .Add b pos) (aOp aAdd ta tb) := ae_op op_addH ab_add ha hb
theorem Reps.flat {K : PySem.W.Frag} {H : Hp} {ds : List Dv} {vs : List V} (h : Reps K H ds vs) : ∀ (n : Nat), Reps K H (List.replicate n ds).flatten (List.replicate n vs).flatten
  | 0 => Reps.nil
  | n + 1 => by
    rw [List.replicate_succ, List.replicate_succ, List.flatten_cons, List.flatten_cons]
    exact h.append (Reps.flat h n)
def aMul : AR2 := fun x y M Q => match x, y with
  | .int i, .int j => (CMul i j ∨ CMulW i j) ∧ Q (.int (i * j)) M
  | .ref a, .int k => ∃ xs, M a = some (.lst xs) ∧ k < 2 ^ 63 ∧ -(2 ^ 63) ≤ k ∧ xs.length * k.toNat ≤ sizeLine ∧ ∀ p, M p = none → Q (.ref p) (mup M p (.lst (List.replicate k.toNat xs).flatten))
  | .tup xs, .int k => xs ≠ [] ∧ -1000 ≤ k ∧ k ≤ 1000 ∧ xs.length ≤ 1000 ∧ Q (.tup (List.replicate k.toNat xs).flatten) M
  | _, _ => False
def rRepT1 (K : PySem.W.Frag) : R2 := fun x y H Q => ∃ l xs, x = .ref l ∧ y = .int 1 ∧ SqT K H l xs ∧ Q (.ref l) H
open PyProof.Rows in
theorem tuple_mulW1 (l : Addr) (items : Array Value) (n : Nat) (dd : Option Addr) (sl : Array (Option Value)) (u : Tok) :
    Meets (Builtin.«tuple.__mul__» ⟨[.ref l, .int 1 u], []⟩) (fun _ R s => s.heap.get? l = some { cls := .type "tuple", dict := dd, data := .seq items n, slots := sl } ∧
      R (.ok (.ret (Value.ref l))) s) :=
  .of_wp fun prog w A R s h => by
    obtain ⟨hp, g, d, tk, os⟩ := s
    obtain ⟨hl, h⟩ := h
    have f1 := AutoSeq1.idx_int
    have c1 : (items.isEmpty || (1 : Int) == 1) = true := by simp
    wp_walk using wpAny_loadPart' hl
    repeat (first
      | (refine wpAny_ite_false (decide_eq_false (by decide)) ?_; wp_walk using wpAny_loadPart' hl)
      | (refine wpAny_ite_true (decide_eq_true c1) ?_; wp_walk using wpAny_loadPart' hl))
    all_goals first | exact ⟨_, rfl, h⟩ | trace_state
theorem op_repT1 : OpR X (binaryOp .Mult) (rRepT1 X.K) := by
  intro pins s σ H x y v u Q I rx ry h
  obtain ⟨l, xs, rfl, rfl, hT, q⟩ := h
  cases rx
  obtain ⟨t, rfl⟩ := ry
  obtain ⟨its, r, ⟨⟨cls, dd, data, sl⟩, ho, hc, n, hd⟩, hs⟩ := I.tuple hT
  simp only at hc hd
  subst hc hd
  exact wpAny_binaryOp_repeat_ref (T := "tuple") (U := "int") (by decide) ⟨_, ho, rfl⟩ (fun s' => typeIs_int s' 1 t) noFill_tuple_mul F.fills_int_mul F.slot_int_rmul repeat_tuple F.slot_int_index.lookup
    (call_meets F.slot_int_rmul (typeIs_int s 1 t) F.entry_int_rmul (F.args_int_rmul_2 _ _) (int_rmul_tuple 1 t l its.toArray n dd sl)
      ⟨ho, rfl, ⟨_, ho, rfl⟩, call_meets F.slot_tuple_mul ⟨_, ho, rfl⟩ F.entry_tuple_mul (F.args_tuple_mul_2 _ _) (tuple_mulW1 l its.toArray n dd sl t) ⟨ho, ⟨.ref l, H, I, rfl, q⟩⟩⟩)
open PyProof.Rows in
theorem tuple_mulW0 (l : Addr) (items : Array Value) (n : Nat) (dd : Option Addr) (sl : Array (Option Value)) (x : Int) (u : Tok) (b0 : (decide (x < -(2 ^ 63)) || decide (x ≥ 2 ^ 63)) = false) (b1 : (items.isEmpty || x == 1) = false) (b2 : (decide (x ≤ 0) || items.isEmpty) = true) :
    Meets (Builtin.«tuple.__mul__» ⟨[.ref l, .int x u], []⟩) (fun _ R s => s.heap.get? l = some { cls := .type "tuple", dict := dd, data := .seq items n, slots := sl } ∧
      R (.ok (.ret (Value.ref s.heap.objs.size))) { s with heap := s.heap.push { cls := Value.type "tuple", data := Data.seq #[] }, toks := s.toks }) :=
  .of_wp fun prog w A R s h => by
    obtain ⟨hp, g, d, tk, os⟩ := s
    obtain ⟨hl, h⟩ := h
    have f1 := AutoSeq1.idx_int
    wp_walk using wpAny_loadPart' hl
    repeat (first
      | (refine wpAny_ite_false (decide_eq_false (ne_true_of_eq_false b0)) ?_; wp_walk using wpAny_loadPart' hl)
      | (refine wpAny_ite_false (decide_eq_false (ne_true_of_eq_false b1)) ?_; wp_walk using wpAny_loadPart' hl)
      | (refine wpAny_ite_true (decide_eq_true b2) ?_; wp_walk using wpAny_loadPart' hl))
    all_goals exact ⟨_, rfl, h⟩
def rRepT0 (K : PySem.W.Frag) : R2 := fun x y H Q => ∃ l k xs, x = .ref l ∧ y = .int k ∧ SqT K H l xs ∧ xs ≠ [] ∧ -1000 ≤ k ∧ k ≤ 0 ∧ ∀ p, H p = none → Q (.ref p) (upd H p (.tup []))
theorem op_repT0 : OpR X (binaryOp .Mult) (rRepT0 X.K) := by
  intro pins s σ H x y v u Q I rx ry h
  obtain ⟨l, k, xs, rfl, rfl, hT, hne, h1, h2, q⟩ := h
  cases rx
  obtain ⟨t, rfl⟩ := ry
  obtain ⟨its, r, ⟨⟨cls, dd, data, sl⟩, ho, hc, n, hd⟩, hs⟩ := I.tuple hT
  simp only at hc hd
  subst hc hd
  have he : its ≠ [] := by
    rintro rfl
    exact hne (List.eq_nil_of_length_eq_zero r.length)
  have hi : its.toArray.isEmpty = false := by
    cases its with
    | nil => exact absurd rfl he
    | cons a b => rfl
  have b0 : (decide (k < -(2 ^ 63)) || decide (k ≥ 2 ^ 63)) = false := by
    simp only [Bool.or_eq_false_iff, decide_eq_false_iff_not]
    omega
  have b1 : (its.toArray.isEmpty || k == 1) = false := by
    simp only [hi, Bool.false_or, beq_eq_false_iff_ne]
    omega
  have b2 : (decide (k ≤ 0) || its.toArray.isEmpty) = true := by simp [h2]
  refine wpAny_binaryOp_repeat_ref (T := "tuple") (U := "int") (by decide) ⟨_, ho, rfl⟩ (fun s' => typeIs_int s' k t) noFill_tuple_mul F.fills_int_mul F.slot_int_rmul repeat_tuple F.slot_int_index.lookup
    (call_meets F.slot_int_rmul (typeIs_int s k t) F.entry_int_rmul (F.args_int_rmul_2 _ _) (int_rmul_tuple k t l its.toArray n dd sl)
      ⟨ho, rfl, ⟨_, ho, rfl⟩, call_meets F.slot_tuple_mul ⟨_, ho, rfl⟩ F.entry_tuple_mul (F.args_tuple_mul_2 _ _) (tuple_mulW0 l its.toArray n dd sl k t b0 b1 b2) ⟨ho, ?_⟩⟩)
  refine ⟨.ref s.heap.objs.size, _, I.laid (t' := s.toks) (o := .tup []) (fun b ob z => Heap.get?_push_of_some _ z) (Nat.le_refl _) ?_, rfl, q _ (I.hok.fresh (Nat.le_refl _))⟩
  exact ⟨Nat.zero_le _, _, .nil, IsTup.new _ _⟩
def rMulH (K : PySem.W.Frag) : R2 := fun x y H Q => (rI CMul (fun i j => .int (i * j)) x y H Q ∨ rI CMulW (fun i j => .int (i * j)) x y H Q) ∨ (rRep x y H Q ∨ (rRepT1 K x y H Q ∨ (rRepT0 K x y H Q ∨ rRepT K x y H Q)))
theorem op_mulH : OpR X (binaryOp .Mult) (rMulH X.K) := opr_or (opr_or op_mul op_mulW) (opr_or op_rep (opr_or op_repT1 (opr_or op_repT0 op_repT)))
theorem ab_mul {K : PySem.W.Frag} : Ab2 K (rMulH K) aMul := by
  intro H M x y dx dy Q Q' rx ry hv q k
  cases dx <;> cases dy <;> first | exact q.elim | skip
  case int.int i j =>
    obtain ⟨c, q⟩ := q
    rcases c with c | c
    · exact .inl (.inl ⟨i, j, rep_int_inv rx, rep_int_inv ry, c, k _ _ _ _ (Tp.refl H) rep_int hv q⟩)
    · exact .inl (.inr ⟨i, j, rep_int_inv rx, rep_int_inv ry, c, k _ _ _ _ (Tp.refl H) rep_int hv q⟩)
  case tup.int ds n =>
    obtain ⟨hne, h1, h2, h3, q⟩ := q
    obtain ⟨a, vs, e1, s1, r1⟩ := rep_tup_inv rx
    have l1 := r1.length
    by_cases hn : n = 1
    · subst hn
      refine .inr (.inr (.inl ⟨a, vs, e1, rep_int_inv ry, s1, k _ _ _ _ (Tp.refl H) (rep_tup s1 ?_) hv q⟩))
      simpa using r1
    · by_cases h0 : n ≤ 0
      · have e0 : (List.replicate n.toNat ds).flatten = [] := by
          rw [Int.toNat_of_nonpos h0]; rfl
        rw [e0] at q
        refine .inr (.inr (.inr (.inl ⟨a, n, vs, e1, rep_int_inv ry, s1, fun z => hne (List.length_eq_zero_iff.mp (by rw [l1, z]; rfl)), h1, h0, end_tup .nil hv q k⟩)))
      refine .inr (.inr (.inr (.inr ⟨a, n, vs, e1, rep_int_inv ry, s1, fun z => hne (List.length_eq_zero_iff.mp (by rw [l1, z]; rfl)), by omega, h2, by omega, end_tup (r1.flat n.toNat) hv q k⟩)))
  case ref.int a n =>
    obtain ⟨xs, h1, h2, h3, z, q⟩ := q
    obtain ⟨vs, e1, r1⟩ := view_lst hv h1
    have l1 := r1.length
    exact .inr (.inl ⟨a, n, vs, rep_ref_inv rx, rep_int_inv ry, e1, h3, h2, by rw [← l1]; exact z, end_lst (r1.flat n.toNat) hv q k⟩)
theorem ae_mul (ha : AE X a ta) (hb : AE X b tb) : AE X (.BinOp a .Mult b pos) (aOp aMul ta tb) := ae_op op_mulH ab_mul ha hb
def Pl : Nat → Dv → Prop
  | _, .non => True
  | _, .int _ => True
  | _, .str x => PyData.canLay0 (.str x) = true
  | n + 1, .tup xs => ∀ d ∈ xs, Pl n d
  | n + 1, .rol xs => ∀ d ∈ xs, Pl n d
  | _, _ => False
def pyP : Nat → Dv → PyData
  | _, .int i => .int i
  | _, .str x => .str x
  | n + 1, .tup xs => .tuple (xs.map (pyP n))
  | n + 1, .rol xs => .list (xs.map (pyP n))
  | _, _ => .none
section
variable {K : PySem.W.Frag} {H : Hp}
theorem dpAll_of {n : Nat} (ih : ∀ d v, Pl n d → Rep K H d v → Dp K H v (pyP n d)) : ∀ {xs : List Dv} {vs : List V}, (∀ d ∈ xs, Pl n d) → Reps K H xs vs → DpAll K H vs (xs.map (pyP n))
  | [], _, _, r => by rw [r.nil_inv]; exact .nil
  | d :: xs, _, h, r => by
    obtain ⟨v, w, rfl, r1, r2⟩ := r.cons_inv
    exact .cons (ih d v (h d (by simp)) r1) (dpAll_of ih (fun e he => h e (by simp [he])) r2)
theorem dp_of : ∀ (n : Nat) (d : Dv) (v : V), Pl n d → Rep K H d v → Dp K H v (pyP n d)
  | 0, .non, v, _, r => by rw [rep_non_inv r]; exact .non
  | n + 1, .non, v, _, r => by rw [rep_non_inv r]; exact .non
  | 0, .int i, v, _, r => by rw [rep_int_inv r]; exact .int i
  | n + 1, .int i, v, _, r => by rw [rep_int_inv r]; exact .int i
  | 0, .str i, v, _, r => by rw [rep_str_inv r]; exact .str i
  | n + 1, .str i, v, _, r => by rw [rep_str_inv r]; exact .str i
  | n + 1, .tup xs, v, h, r => by
    obtain ⟨a, vs, e, s, z⟩ := rep_tup_inv r
    subst e
    exact .tup s (dpAll_of (dp_of n) h z)
  | n + 1, .rol xs, v, h, r => by
    obtain ⟨a, vs, e, s, z⟩ := rep_rol_inv r
    subst e
    exact .lst s.l (dpAll_of (dp_of n) h z)
theorem canLayAll_of {f : Dv → PyData} : ∀ {xs : List Dv}, (∀ d ∈ xs, (f d).canLay0 = true) → PyData.canLayAll0 (xs.map f) = true
  | [], _ => by simp [PyData.canLayAll0]
  | d :: xs, h => by
    have h1 := h d (by simp)
    have h2 := canLayAll_of fun e (he : e ∈ xs) => h e (List.mem_cons_of_mem _ he)
    simp [PyData.canLayAll0, h1, h2]
theorem canLay_pl : ∀ (n : Nat) (d : Dv), Pl n d → (pyP n d).canLay0 = true
  | 0, .non, _ => by simp [pyP, PyData.canLay0]
  | n + 1, .non, _ => by simp [pyP, PyData.canLay0]
  | 0, .int _, _ => by simp [pyP, PyData.canLay0]
  | n + 1, .int _, _ => by simp [pyP, PyData.canLay0]
  | 0, .str _, h => h
  | n + 1, .str _, h => h
  | n + 1, .tup xs, h => by
    simp only [pyP, PyData.canLay0]
    exact canLayAll_of fun d hd => canLay_pl n d (h d hd)
  | n + 1, .rol xs, h => by
    simp only [pyP, PyData.canLay0]
    exact canLayAll_of fun d hd => canLay_pl n d (h d hd)
theorem depthAll_of {f : Dv → PyData} {n : Nat} : ∀ {xs : List Dv}, (∀ d ∈ xs, (f d).depth ≤ n) → PyData.depthAll (xs.map f) ≤ n
  | [], _ => by simp [PyData.depthAll]
  | d :: xs, h => by
    have h1 := h d (by simp)
    have h2 := depthAll_of fun e he => h e (List.mem_cons_of_mem _ he)
    simp [PyData.depthAll]
    omega
theorem depth_pl : ∀ (n : Nat) (d : Dv), Pl n d → (pyP n d).depth ≤ n
  | 0, .non, _ => by simp [pyP, PyData.depth]
  | n + 1, .non, _ => by simp [pyP, PyData.depth]
  | 0, .int _, _ => by simp [pyP, PyData.depth]
  | n + 1, .int _, _ => by simp [pyP, PyData.depth]
  | 0, .str _, h => by simp [pyP, PyData.depth]
  | n + 1, .str _, h => by simp [pyP, PyData.depth]
  | n + 1, .tup xs, h => by
    simp only [pyP, PyData.depth]
    have := depthAll_of fun d hd => depth_pl n d (h d hd)
    omega
  | n + 1, .rol xs, h => by
    simp only [pyP, PyData.depth]
    have := depthAll_of fun d hd => depth_pl n d (h d hd)
    omega
theorem eqvAll_of {n : Nat} (ih : ∀ d e, Pl n d → Pl n e → (PyData.eqv (pyP n d) (pyP n e) = true ↔ d = e)) : ∀ {xs ys : List Dv}, (∀ d ∈ xs, Pl n d) → (∀ d ∈ ys, Pl n d) → (PyData.eqvAll (xs.map (pyP n)) (ys.map (pyP n)) = true ↔ xs = ys)
  | [], [], _, _ => by simp [PyData.eqvAll]
  | [], _ :: _, _, _ => by simp [PyData.eqvAll]
  | _ :: _, [], _, _ => by simp [PyData.eqvAll]
  | d :: xs, e :: ys, h, h' => by
    have h1 := ih d e (h d (by simp)) (h' e (by simp))
    have h2 := eqvAll_of ih (xs := xs) (ys := ys) (fun z hz => h z (by simp [hz])) fun z hz => h' z (by simp [hz])
    simp [PyData.eqvAll, h1, h2]
theorem eqv_pl : ∀ (n : Nat) (d e : Dv), Pl n d → Pl n e → (PyData.eqv (pyP n d) (pyP n e) = true ↔ d = e) := by
  intro n
  induction n with
  | zero =>
    intro d e hd he
    cases d <;> cases e <;> first | exact hd.elim | exact he.elim | simp [pyP, PyData.eqv]
  | succ n ih =>
    intro d e hd he
    cases d <;> cases e <;> first | exact hd.elim | exact he.elim | skip
    case tup.tup xs ys =>
      have := eqvAll_of ih (xs := xs) (ys := ys) hd he
      simp only [pyP, PyData.eqv, this, Dv.tup.injEq]
    case rol.rol xs ys =>
      have := eqvAll_of ih (xs := xs) (ys := ys) hd he
      simp only [pyP, PyData.eqv, this, Dv.rol.injEq]
    all_goals simp [pyP, PyData.eqv]
open Classical in
theorem eqv_dec (n : Nat) (d e : Dv) (hd : Pl n d) (he : Pl n e) : PyData.eqv (pyP n d) (pyP n e) = decide (d = e) := by
  by_cases h : d = e
  · rw [decide_eq_true h]; exact (eqv_pl n d e hd he).mpr h
  · rw [decide_eq_false h]
    cases q : PyData.eqv (pyP n d) (pyP n e) with
    | false => rfl
    | true => exact absurd ((eqv_pl n d e hd he).mp q) h
end
open Classical in
noncomputable def aEqB (x y : Dv) (M : Ms) (Q : Bool → Prop) : Prop := match x, y with
  | .bl a, .bl b => Q (a == b)
  | .ref a, .ref b => ∃ xs ys, M a = some (.lst xs) ∧ M b = some (.lst ys) ∧ (∀ d ∈ xs, Pl 8 d) ∧ (∀ d ∈ ys, Pl 8 d) ∧ Q (decide (xs = ys))
  | .ref a, .rol ys => ∃ xs, M a = some (.lst xs) ∧ Pl 9 (.rol xs) ∧ Pl 9 (.rol ys) ∧ Q (decide (xs = ys))
  | .rol xs, .ref b => ∃ ys, M b = some (.lst ys) ∧ Pl 9 (.rol xs) ∧ Pl 9 (.rol ys) ∧ Q (decide (xs = ys))
  | x, y => Pl 9 x ∧ Pl 9 y ∧ Q (decide (x = y))
noncomputable def aEq : AR2 := fun x y M Q => aEqB x y M fun b => Q (.bl b) M
noncomputable def aNe : AR2 := fun x y M Q => aEqB x y M fun b => Q (.bl (!b)) M
theorem shaped_of {d : PyData} (h1 : d.canLay0 = true) (h2 : d.depth ≤ 20) : SeqAt.shaped d = true := by
  unfold SeqAt.shaped
  rw [h1, Bool.true_and]
  exact decide_eq_true (by omega)
open Classical in
theorem aEqB_ok {K : PySem.W.Frag} {H : Hp} {M : Ms} {x y : V} {dx dy : Dv} {P : Bool → Prop} (rx : Rep K H dx x) (ry : Rep K H dy y) (hv : View K M H) (h : aEqB dx dy M P) :
    ∃ d e, Dp K H x d ∧ Dp K H y e ∧ SeqAt.shaped d = true ∧ SeqAt.shaped e = true ∧ P (PyData.eqv d e) := by
  have gen : Pl 9 dx → Pl 9 dy → P (decide (dx = dy)) → ∃ d e, Dp K H x d ∧ Dp K H y e ∧ SeqAt.shaped d = true ∧ SeqAt.shaped e = true ∧ P (PyData.eqv d e) := fun h1 h2 q => by
    have d1 := depth_pl 9 _ h1
    have d2 := depth_pl 9 _ h2
    exact ⟨_, _, dp_of 9 _ _ h1 rx, dp_of 9 _ _ h2 ry, shaped_of (canLay_pl _ _ h1) (by omega), shaped_of (canLay_pl _ _ h2) (by omega), by rw [eqv_dec 9 _ _ h1 h2]; exact q⟩
  unfold aEqB at h
  split at h
  · next a b =>
    rw [rep_bl_inv rx, rep_bl_inv ry]
    refine ⟨.bool a, .bool b, .bl a, .bl b, by rfl, by rfl, ?_⟩
    simp only [PyData.eqv]
    exact h
  · next a b =>
    obtain ⟨xs, ys, h1, h2, p1, p2, q⟩ := h
    obtain ⟨vs, e1, r1⟩ := view_lst hv h1
    obtain ⟨ws, e2, r2⟩ := view_lst hv h2
    rw [rep_ref_inv rx, rep_ref_inv ry]
    have c1 : PyData.canLay0 (.list (xs.map (pyP 8))) = true := by simp only [PyData.canLay0]; exact canLayAll_of fun d hd => canLay_pl 8 d (p1 d hd)
    have c2 : PyData.canLay0 (.list (ys.map (pyP 8))) = true := by simp only [PyData.canLay0]; exact canLayAll_of fun d hd => canLay_pl 8 d (p2 d hd)
    have z1 : PyData.depth (.list (xs.map (pyP 8))) ≤ 20 := by
      have := depthAll_of fun d hd => depth_pl 8 d (p1 d hd)
      simp only [PyData.depth]; omega
    have z2 : PyData.depth (.list (ys.map (pyP 8))) ≤ 20 := by
      have := depthAll_of fun d hd => depth_pl 8 d (p2 d hd)
      simp only [PyData.depth]; omega
    refine ⟨_, _, .lst (.inl (.inl e1)) (dpAll_of (dp_of 8) p1 r1), .lst (.inl (.inl e2)) (dpAll_of (dp_of 8) p2 r2), shaped_of c1 z1, shaped_of c2 z2, ?_⟩
    have e := eqvAll_of (eqv_pl 8) p1 p2
    have e' : PyData.eqv (.list (xs.map (pyP 8))) (.list (ys.map (pyP 8))) = decide (xs = ys) := by
      simp only [PyData.eqv]
      by_cases q : xs = ys
      · rw [decide_eq_true q]; exact e.mpr q
      · rw [decide_eq_false q]
        cases w : PyData.eqvAll (xs.map (pyP 8)) (ys.map (pyP 8)) with
        | false => rfl
        | true => exact absurd (e.mp w) q
    rw [e']; exact q
  · next a ys =>
    obtain ⟨xs, h1, p1, p2, q⟩ := h
    obtain ⟨vs, e1, r1⟩ := view_lst hv h1
    rw [rep_ref_inv rx]
    have d1 := depth_pl 9 _ p1
    have d2 := depth_pl 9 _ p2
    have eq : decide (Dv.rol xs = Dv.rol ys) = decide (xs = ys) := by simp only [Dv.rol.injEq]
    refine ⟨pyP 9 (.rol xs), _, ?_, dp_of 9 _ _ p2 ry, shaped_of (canLay_pl _ _ p1) (by omega), shaped_of (canLay_pl _ _ p2) (by omega), by rw [eqv_dec 9 _ _ p1 p2, eq]; exact q⟩
    show Dp K H (.ref a) (.list (xs.map (pyP 8)))
    exact .lst (.inl (.inl e1)) (dpAll_of (dp_of 8) p1 r1)
  · next xs b =>
    obtain ⟨ys, h1, p1, p2, q⟩ := h
    obtain ⟨vs, e1, r1⟩ := view_lst hv h1
    rw [rep_ref_inv ry]
    have d1 := depth_pl 9 _ p1
    have d2 := depth_pl 9 _ p2
    have eq : decide (Dv.rol xs = Dv.rol ys) = decide (xs = ys) := by simp only [Dv.rol.injEq]
    refine ⟨_, pyP 9 (.rol ys), dp_of 9 _ _ p1 rx, ?_, shaped_of (canLay_pl _ _ p1) (by omega), shaped_of (canLay_pl _ _ p2) (by omega), by rw [eqv_dec 9 _ _ p1 p2, eq]; exact q⟩
    show Dp K H (.ref b) (.list (ys.map (pyP 8)))
    exact .lst (.inl (.inl e1)) (dpAll_of (dp_of 8) p2 r1)
  · exact gen h.1 h.2.1 h.2.2
theorem ab_eq {K : PySem.W.Frag} : Ab2 K (rEqD K) aEq := fun H M x y dx dy Q Q' rx ry hv q k => by
  obtain ⟨d, e, h1, h2, h3, h4, q⟩ := aEqB_ok rx ry hv q
  exact ⟨d, e, h1, h2, h3, h4, k _ _ _ _ (Tp.refl H) rep_bl hv q⟩
theorem ab_ne {K : PySem.W.Frag} : Ab2 K (rNeD K) aNe := fun H M x y dx dy Q Q' rx ry hv q k => by
  obtain ⟨d, e, h1, h2, h3, h4, q⟩ := aEqB_ok rx ry hv q
  exact ⟨d, e, h1, h2, h3, h4, k _ _ _ _ (Tp.refl H) rep_bl hv q⟩
theorem ae_eq (hu : X.A.units + 64 < cLine) (ha : AE X a ta) (hb : AE X b tb) : AE X (.Compare a [.Eq] [b] pos) (aOp aEq ta tb) := ae_cmp (op_eqD hu) ab_eq ha hb (nomark _)
theorem at_eq (hu : X.A.units + 64 < cLine) (ha : AE X a ta) (hb : AE X b tb) : AT X (.Compare a [.Eq] [b] pos) (aB (aOp aEq ta tb)) := at_cmp (op_eqD hu) ab_eq ha hb (nomark _)
theorem at_ne (hu : X.A.units + 64 < cLine) (ha : AE X a ta) (hb : AE X b tb) : AT X (.Compare a [.NotEq] [b] pos) (aB (aOp aNe ta tb)) := at_cmp (op_neD hu) ab_ne ha hb (nomark _)
end
end HC
set_option maxHeartbeats 4000000
namespace HC
open PySem L2
abbrev RG := Dv → Env' → Ms → (Env' → Ms → Prop) → Prop
abbrev RGs := List Dv → Env' → Ms → (Env' → Ms → Prop) → Prop
def cG (K : PySem.W.Frag) (t : RG) : TG := fun v σ H Q' => ∃ d ρ M Q, Rep K H d v ∧ RepE K H ρ σ ∧ View K M H ∧ t d ρ M Q ∧ LkS K H Q Q'
def cGs (K : PySem.W.Frag) (t : RGs) : TGs := fun vs σ H Q' => ∃ ds ρ M Q, Reps K H ds vs ∧ RepE K H ρ σ ∧ View K M H ∧ t ds ρ M Q ∧ LkS K H Q Q'
def AG (X : Cx) (e : Expr) (t : RG) : Prop := PG X e (cG X.K t)
def AGs (X : Cx) (es : List Expr) (t : RGs) : Prop := PGs X es (cGs X.K t)
theorem pg_imp {X : Cx} {e : Expr} {t t' : TG} (h : PG X e t) (f : ∀ v σ H Q, t' v σ H Q → t v σ H Q) : PG X e t' := ⟨fun pins s σ H v u Q I r q => h.run pins s σ H v u Q I r (f _ _ _ _ q)⟩
theorem pgs_imp {X : Cx} {e : List Expr} {t t' : TGs} (h : PGs X e t) (f : ∀ v σ H Q, t' v σ H Q → t v σ H Q) : PGs X e t' := ⟨fun pins s σ H v u Q I r q => h.run pins s σ H v u Q I r (f _ _ _ _ q)⟩
theorem pg_or {X : Cx} {e : Expr} {t t' : TG} (h : PG X e t) (h' : PG X e t') : PG X e (fun v σ H Q => t v σ H Q ∨ t' v σ H Q) := ⟨fun pins s σ H v u Q I r q => q.elim (fun q => h.run pins s σ H v u Q I r q) (fun q => h'.run pins s σ H v u Q I r q)⟩
section
variable {X : Cx} {pos : Pos} {e : Expr} {es : List Expr}
def agName (i : Nat) : RG := fun d ρ M Q => Q (ρ.set i (some d)) M
theorem ag_name (i : Nat) {x : Str} (hN : X.N.Nodup) (hi : X.N[i]? = some x := by rfl) (hx : Loc X.env.scope x := by first | exact .inl rfl | exact .inr rfl) (hf : X.fn x = true ∨ X.env.scope.names.lookup x = some .local := by first | exact .inl rfl | exact .inr rfl) : AG X (.Name x pos) (agName i) :=
  pg_imp (pg_name hN hi hx hf) fun v σ H Q' ⟨d, ρ, M, Q, rd, hr, hv, q, k⟩ => k _ _ _ _ (Tp.refl H) (hr.set i rd) hv q
def agNil : RGs := fun ds ρ M Q => ds = [] ∧ Q ρ M
def agCons (t : RG) (u : RGs) : RGs := fun ds ρ M Q => match ds with
  | [] => False
  | d :: r => t d ρ M fun ρ1 M1 => u r ρ1 M1 Q
theorem ags_nil : AGs X [] agNil := pgs_imp pgs_nil fun v σ H Q' ⟨d, ρ, M, Q, rd, hr, hv, ⟨e, q⟩, k⟩ => by
  subst e
  exact ⟨rd.nil_inv, k _ _ _ _ (Tp.refl H) hr hv q⟩
theorem ags_cons {t : RG} {u : RGs} (h1 : AG X e t) (h2 : AGs X es u) (hs : (assignEach (e :: es) X.env).map (·.2) = assign e X.env :: (assignEach es X.env).map (·.2) := by rfl) : AGs X (e :: es) (agCons t u) :=
  pgs_imp (pgs_cons h1 h2 hs) fun vs σ H Q' ⟨ds, ρ, M, Q, rd, hr, hv, q, k⟩ => by
    cases ds with
    | nil => exact q.elim
    | cons d r =>
      obtain ⟨v, vr, e1, r1, r2⟩ := rd.cons_inv
      exact ⟨v, vr, e1, d, ρ, M, _, r1, hr, hv, q, fun σ1 H1 ρ1 M1 t1 hr1 hv1 q1 => ⟨r, ρ1, M1, Q, r2.mono t1, hr1, hv1, q1, k.up t1⟩⟩
def itemsA : Dv → Ms → Option (List Dv)
  | .tup ds, _ => some ds
  | .rol ds, _ => some ds
  | .tuc ds, _ => some ds
  | .ref a, M => match M a with | some (.lst ds) => some ds | _ => none
  | _, _ => none
theorem itemsA_ok {K : PySem.W.Frag} {M : Ms} {H : Hp} {d : Dv} {v : V} {ds : List Dv} (r : Rep K H d v) (hv : View K M H) (h : itemsA d M = some ds) : ∃ a vs, v = .ref a ∧ (SqT K H a vs ∨ SqL K H a vs) ∧ Reps K H ds vs := by
  cases d with
  | tup es =>
    cases h
    obtain ⟨a, vs, e, s, z⟩ := (show ∃ a vs, v = .ref a ∧ SqT K H a vs ∧ Reps K H ds vs by simpa only [Rep] using r)
    exact ⟨a, vs, e, .inl s, z⟩
  | rol es =>
    cases h
    obtain ⟨a, vs, e, s, z⟩ := (show ∃ a vs, v = .ref a ∧ SqF K H a vs ∧ Reps K H ds vs by simpa only [Rep] using r)
    exact ⟨a, vs, e, .inr s.l, z⟩
  | exc _ _ => cases h
  | tuc es =>
    cases h
    obtain ⟨a, vs, e, s, z⟩ := (show ∃ a vs, v = .ref a ∧ SqC H a vs ∧ Reps K H ds vs by simpa only [Rep] using r)
    exact ⟨a, vs, e, .inl s.t, z⟩
  | ref a =>
    have e : v = .ref a := by simpa only [Rep] using r
    simp only [itemsA] at h
    cases q : M a with
    | none => rw [q] at h; cases h
    | some c =>
      rw [q] at h
      cases c with
      | dic _ => cases h
      | dit _ => cases h
      | fdc _ => cases h
      | obj _ _ => cases h
      | tab _ => cases h
      | cod _ => cases h
      | lst es =>
        cases h
        obtain ⟨vs, h1, h2⟩ := hv a _ q
        exact ⟨a, vs, e, .inr (.inl (.inl h1)), h2⟩
  | non => cases h
  | bl _ => cases h
  | int _ => cases h
  | str _ => cases h
  | ty _ => cases h
def agTup (n : Nat) (t : RGs) : RG := fun d ρ M Q => onS (itemsA d M) fun ds => ds.length = n ∧ t ds ρ M Q
theorem ag_tup {k : Nat} {t : RGs} {n : Nat} (hc : X.calm = true) (h : AGs X es t) (hn : (assignEach es X.env).length = n := by rfl) (hst : (assignEach es X.env).findIdx? (·.1) = none := by rfl) : AG X (.Tuple es k pos) (agTup n t) :=
  pg_imp (pg_or (pg_tup hc h hn hst) (pg_lst hc h hn hst)) fun v σ H Q' ⟨d, ρ, M, Q, rd, hr, hv, q, k⟩ => by
    obtain ⟨ds, e, hl, q⟩ := onS_ex q
    obtain ⟨a, vs, e1, s, z⟩ := itemsA_ok rd hv e
    rcases s with s | s
    · exact .inl ⟨a, vs, e1, s, by rw [← z.length]; exact hl, ds, ρ, M, Q, z, hr, hv, q, k⟩
    · exact .inr ⟨a, vs, e1, s, by rw [← z.length]; exact hl, ds, ρ, M, Q, z, hr, hv, q, k⟩
end
section
variable {X : Cx} {pos : Pos} {a b c e tg : Expr} {te : RE} {st : Stmt} {sts rest : List Stmt} {t u : RS} {tc : RT} {g : RG}
theorem seqS {K : PySem.W.Frag} {ρ : Env'} {σ : L2.St} {M : Ms} {H : Hp} {t : RS} {D : Ends'} {D' : Ends} (hr : RepE K H ρ σ) (hv : View K M H) (h : t D ρ M) (k : LkD K H D D') : cS K t D' σ H := ⟨ρ, M, D, hr, hv, h, k⟩
def aNext : RS := fun D ρ M => D.nx ρ M
def aSeq (t u : RS) : RS := fun D ρ M => t { D with nx := u D } ρ M
theorem next_imp {K : PySem.W.Frag} : ∀ D σ H, cS K aNext D σ H → tNext D σ H := fun D' σ H ⟨ρ, M, D, hr, hv, q, k⟩ => k.nx _ _ _ _ (Tp.refl H) hr hv q
theorem ass_nil : ASs X [] aNext := pss_imp pss_nil next_imp
theorem ass_cons (h1 : AS X st t) (h2 : ASs X rest u) : ASs X (st :: rest) (aSeq t u) :=
  pss_imp (pss_cons h1 h2) fun D' σ H ⟨ρ, M, D, hr, hv, q, k⟩ => seqS (D := { D with nx := u D }) hr hv q ⟨fun σ1 H1 ρ1 M1 t1 r1 v1 q1 => seqS r1 v1 q1 (k.up t1), k.rt, k.bk, k.ct⟩
theorem ass_one (h : AS X st t) : ASs X [st] t := pss_one h
def aDrop (te : RE) : RS := fun D ρ M => te ρ M fun _ M1 => D.nx ρ M1
theorem as_expr (h : AE X e te) (hs : swapsWith e none pos.line X.env = pure false := by rfl) : AS X (.Expr e pos) (aDrop te) := ps_imp (ps_expr h hs) fun D' σ H ⟨ρ, M, D, hr, hv, q, k⟩ => seqE hr hv q fun v H1 d M1 t1 r1 v1 q1 => k.nx _ _ _ _ t1 (hr.mono t1) v1 q1
def aRet (te : RE) : RS := fun D ρ M => te ρ M D.rt
theorem as_ret (h : AE X e te) : AS X (.Return (some e) pos) (aRet te) := ps_imp (ps_ret h) fun D' σ H ⟨ρ, M, D, hr, hv, q, k⟩ => seqE hr hv q k.rt
def aIfS (tc : RT) (t u : RS) : RS := fun D ρ M => tc ρ M fun b M1 => onIf b (t D ρ M1) (u D ρ M1)
theorem as_if {as bs : List Stmt} (hc : AT X c tc) (h1 : ASs X as t) (h2 : ASs X bs u) : AS X (.If c as bs pos) (aIfS tc t u) :=
  ps_imp (ps_if hc h1 h2) fun D' σ H ⟨ρ, M, D, hr, hv, q, k⟩ => seqT hr hv q fun b H1 M1 t1 v1 q1 => by
    cases b with
    | true => exact seqS (hr.mono t1) v1 q1 (k.up t1)
    | false => exact seqS (hr.mono t1) v1 q1 (k.up t1)
def aAsg (te : RE) (g : RG) : RS := fun D ρ M => te ρ M fun d M1 => g d ρ M1 D.nx
theorem as_asg (he : AE X e te) (hg : AG X tg g) (hs : swapsWithSole [tg] e pos.line X.env = pure false := by rfl) (hw : swappedStores [tg] e X.env = pure none := by rfl)
    (h1 : (assignEach [tg] X.env).map (·.2) = [assign tg X.env] := by rfl) : AS X (.Assign [tg] e pos) (aAsg te g) :=
  ps_imp (ps_asg he hg hs hw h1) fun D' σ H ⟨ρ, M, D, hr, hv, q, k⟩ => seqE hr hv q fun v H1 d M1 t1 r1 v1 q1 => ⟨d, ρ, M1, D.nx, r1, hr.mono t1, v1, q1, k.nx.up t1⟩
theorem asg_name_imp {K : PySem.W.Frag} {i : Nat} {te' : TE} (h : ∀ σ H Q, cE K te σ H Q → te' σ H Q) : ∀ D σ H, cS K (aAsg te (agName i)) D σ H → tAsg te' (gName i) D σ H := fun D' σ H ⟨ρ, M, D, hr, hv, q, k⟩ =>
  h _ _ _ (seqE hr hv q fun v H1 d M1 t1 r1 v1 q1 => k.nx _ _ _ _ t1 ((hr.mono t1).set i r1) v1 q1)
theorem as_set (i : Nat) {x : Str} {pos' : Pos} (hN : X.N.Nodup) (he : AE X e te) (hi : X.N[i]? = some x := by rfl) (hx : Loc X.env.scope x := by first | exact .inl rfl | exact .inr rfl) (hs : swapsWith e (some (.Name x pos')) pos.line X.env = pure false := by rfl) (hf : X.fn x = true ∨ X.env.scope.names.lookup x = some .local := by first | exact .inl rfl | exact .inr rfl) :
    AS X (.Assign [.Name x pos'] e pos) (aAsg te (agName i)) := ps_imp (ps_set hN hi hx he hs hf) (asg_name_imp fun _ _ _ q => q)
def aPar (i j : Nat) (ta : RA) : RS := fun D ρ M => ta ρ M fun ds M1 => match ds with
  | [d, f] => D.nx ((ρ.set i (some d)).set j (some f)) M1
  | _ => False
theorem as_par (i j : Nat) {x y : Str} {ta : RA} {px py pt : Pos} {kt k2 pt2} (hc : X.calm = true) (hN : X.N.Nodup) (ha : AA X [a, b] ta) (hi : X.N[i]? = some x := by rfl) (hj : X.N[j]? = some y := by rfl) (hij : i ≠ j := by decide)
    (hx : X.env.scope.names.lookup x = some .local := by rfl) (hy : X.env.scope.names.lookup y = some .local := by rfl)
    (hw : swappedStores [.Tuple [.Name x px, .Name y py] kt pt] (.Tuple [a, b] k2 pt2) X.env = pure (some [x, y]) := by rfl)
    (hs : swapsWithSole [.Tuple [.Name x px, .Name y py] kt pt] (.Tuple [a, b] k2 pt2) pos.line X.env = pure false := by rfl) :
    AS X (.Assign [.Tuple [.Name x px, .Name y py] kt pt] (.Tuple [a, b] k2 pt2) pos) (aPar i j ta) :=
  ps_imp (ps_par hc hN hi hj hij hx hy ha hw hs) fun D' σ H ⟨ρ, M, D, hr, hv, q, k⟩ => ⟨ρ, M, _, hr, hv, q, fun vs H1 ds M1 t1 r1 v1 q1 => by
    match ds, r1, q1 with
    | [d, f], r1, q1 =>
      obtain ⟨v, _, e1, z1, r2⟩ := r1.cons_inv
      obtain ⟨w, _, e2, z2, r3⟩ := r2.cons_inv
      have e3 := r3.nil_inv
      subst e1 e2 e3
      exact ⟨v, w, rfl, k.nx _ _ _ _ t1 (((hr.mono t1).set i z1).set j z2) v1 q1⟩⟩
def aWhile (tc : RT) (tb : RS) : RS := fun D ρ M => ∃ W : Nat → Env' → Ms → Prop, (∃ m, W m ρ M) ∧ ∀ m ρ M, W m ρ M → tc ρ M fun b M1 => onIf b (tb { D with nx := wk fun ρ M => ∃ m', m' < m ∧ W m' ρ M, ct := wk fun ρ M => ∃ m', m' < m ∧ W m' ρ M, bk := D.nx } ρ M1) (D.nx ρ M1)
theorem as_while {body : List Stmt} (hp : PassesOwn (model X.prog X.w) X.A X.env X.xe) (hc : AT X c tc) (hb : ASs X body t) : AS X (.While c body [] pos) (aWhile tc t) :=
  ps_imp (ps_while hp hc hb) fun D' σ H h => by
    obtain ⟨ρ, M, D, hr, hv, ⟨W, ⟨m, w0⟩, turn⟩, k⟩ := h
    refine ⟨fun m σ1 H1 => ∃ ρ1 M1, Tp X.K H H1 ∧ RepE X.K H1 ρ1 σ1 ∧ View X.K M1 H1 ∧ W m ρ1 M1, ⟨m, ρ, M, Tp.refl H, hr, hv, w0⟩, ?_⟩
    rintro m σ1 H1 ⟨ρ1, M1, t1, hr1, hv1, w1⟩
    refine seqT hr1 hv1 (turn m ρ1 M1 w1) fun b H2 M2 t2 v2 q2 => ?_
    cases b with
    | false => exact k.nx _ _ _ _ (t1.trans t2) (hr1.mono t2) v2 q2
    | true =>
      refine ⟨fun σ3 H3 => ∃ ρ3 M3, Tp X.K H H3 ∧ RepE X.K H3 ρ3 σ3 ∧ View X.K M3 H3 ∧ ∃ m', m' < m ∧ W m' ρ3 M3, ?_, ?_⟩
      · rintro σ3 H3 ⟨ρ3, M3, t3, r3, v3, m', hm, w3⟩
        exact ⟨m', hm, ρ3, M3, t3, r3, v3, w3⟩
      · exact seqS (hr1.mono t2) v2 q2 ⟨fun σ3 H3 ρ3 M3 t3 r3 v3 ⟨ρ4, M4, se, sm, q3⟩ => ⟨ρ4, M4, (t1.trans t2).trans t3, se.rep r3, v3.sub sm, q3⟩, k.rt.up (t1.trans t2), k.nx.up (t1.trans t2), fun σ3 H3 ρ3 M3 t3 r3 v3 ⟨ρ4, M4, se, sm, q3⟩ => ⟨ρ4, M4, (t1.trans t2).trans t3, se.rep r3, v3.sub sm, q3⟩⟩
end
abbrev RI := Env' → Ms → (List Dv → (Ms → Prop) → Ms → Prop) → Prop
structure IW (K : PySem.W.Frag) (J : It) (ds : List Dv) (keep : Ms → Prop) (H0 : Hp) : Prop where
  go : ∀ i H M, i < ds.length → Tp K H0 H → View K M H → keep M → J.go i H
  stop : ∀ H M, Tp K H0 H → View K M H → keep M → J.stop ds.length H
  yld : ∀ i H M x H', i < ds.length → Tp K H0 H → View K M H → keep M → J.yld i H x H' → ∃ d, ds[i]? = some d ∧ Tp K H H' ∧ Rep K H' d x ∧ View K M H' ∧ (∀ a, H a ≠ none → H' a = H a)
def cI (K : PySem.W.Frag) (ai : RI) : TI := fun σ H R => ∃ ρ M Q, RepE K H ρ σ ∧ View K M H ∧ ai ρ M Q ∧ ∀ J H' ds keep M', Tp K H H' → View K M' H' → Q ds keep M' → IW K J ds keep H' → R J H'
def AI (X : Cx) (tg iter : Expr) (ai : RI) : Prop := PI X tg iter (cI X.K ai)
theorem pi_imp {X : Cx} {tg e : Expr} {t t' : TI} (h : PI X tg e t) (f : ∀ σ H Q, t' σ H Q → t σ H Q) : PI X tg e t' := ⟨fun pins s σ H Q I q => h.run pins s σ H Q I (f _ _ _ q)⟩
def forW0 (keep : Ms → Prop) (g : RG) (tb : RS) (D : Ends') : List Dv → Env' → Ms → Prop
  | [], ρ, M => keep M ∧ D.nx ρ M
  | d :: ds, ρ, M => keep M ∧ ∃ N : Env' → Ms → Prop, (∀ ρ1 M1, N ρ1 M1 → forW0 keep g tb D ds ρ1 M1) ∧ g d ρ M fun ρ1 M1 => tb { D with nx := wk N, ct := wk N, bk := D.nx } ρ1 M1
@[irreducible] def forW (keep : Ms → Prop) (g : RG) (tb : RS) (D : Ends') (ds : List Dv) (ρ : Env') (M : Ms) : Prop := forW0 keep g tb D ds ρ M
theorem forW_eqn {keep : Ms → Prop} {g : RG} {tb : RS} {D : Ends'} {ρ : Env'} {M : Ms} : forW keep g tb D [] ρ M = (keep M ∧ D.nx ρ M) := by unfold forW; rfl
theorem forW_eqc {keep : Ms → Prop} {g : RG} {tb : RS} {D : Ends'} {d : Dv} {ds : List Dv} {ρ : Env'} {M : Ms} : forW keep g tb D (d :: ds) ρ M = (keep M ∧ ∃ N : Env' → Ms → Prop, (∀ ρ1 M1, N ρ1 M1 → forW keep g tb D ds ρ1 M1) ∧ g d ρ M fun ρ1 M1 => tb { D with nx := wk N, ct := wk N, bk := D.nx } ρ1 M1) := by unfold forW; rfl
def aFor (ai : RI) (g : RG) (tb : RS) : RS := fun D ρ M => ai ρ M fun ds keep M1 => forW keep g tb D ds ρ M1
section
variable {X : Cx} {pos : Pos} {tg iter : Expr} {ai : RI} {g : RG} {t : RS}
theorem drop_cons {α : Type} {l : List α} {i : Nat} {d : α} (h : l[i]? = some d) : l.drop i = d :: l.drop (i + 1) := by
  have hl := (List.getElem?_eq_some_iff.mp h).1
  rw [List.drop_eq_getElem_cons hl]
  have : l[i] = d := (List.getElem?_eq_some_iff.mp h).2
  rw [this]
theorem as_for {body : List Stmt} (hp : PassesOwn (model X.prog X.w) X.A X.env X.xe) (hc : X.calm = true) (hi : AI X tg iter ai) (hg : AG X tg g) (hb : ASs X body t)
    (hs : ∀ x, foldedSetIterable iter X.env x = pure x := by intro _; rfl) : AS X (.For tg iter body [] pos) (aFor ai g t) :=
  ps_imp (ps_for hp hc hi hg hb hs) fun D' σ H h => by
    obtain ⟨ρ, M, D, hr, hv, q, k⟩ := h
    refine ⟨ρ, M, _, hr, hv, q, fun J H1 ds keep M1 t1 v1 q1 iw => ?_⟩
    refine ⟨fun i m σ2 H2 => m = ds.length - i ∧ i ≤ ds.length ∧ ∃ ρ2 M2, Tp X.K H1 H2 ∧ RepE X.K H2 ρ2 σ2 ∧ View X.K M2 H2 ∧ forW keep g t D (ds.drop i) ρ2 M2, ⟨ds.length, by simp, Nat.zero_le _, ρ, M1, Tp.refl _, hr.mono t1, v1, by simpa using q1⟩, ?_⟩
    rintro i m σ2 H2 ⟨rfl, hi', ρ2, M2, t2, r2, v2, q2⟩
    by_cases hlt : i < ds.length
    · rw [drop_cons (List.getElem?_eq_getElem hlt), forW_eqc] at q2
      obtain ⟨kp, Nx, hN, q2⟩ := q2
      refine .inr ⟨iw.go i H2 M2 hlt t2 v2 kp, fun σ3 H3 => ∃ ρ3 M3, Tp X.K H1 H3 ∧ RepE X.K H3 ρ3 σ3 ∧ View X.K M3 H3 ∧ Nx ρ3 M3, ?_, ?_⟩
      · rintro σ3 H3 ⟨ρ3, M3, t3, r3, v3, q3⟩
        exact ⟨ds.length - (i + 1), by omega, rfl, hlt, ρ3, M3, t3, r3, v3, hN _ _ q3⟩
      · intro x H3 hy
        obtain ⟨d, hd, t3, rd, v3, _⟩ := iw.yld i H2 M2 x H3 hlt t2 v2 kp hy
        have e : d = ds[i] := by rw [List.getElem?_eq_getElem hlt] at hd; exact (Option.some.inj hd).symm
        subst e
        refine ⟨_, ρ2, M2, _, rd, r2.mono t3, v3, q2, fun σ4 H4 ρ4 M4 t4 r4 v4 q4 => ?_⟩
        have tt := t2.trans (t3.trans t4)
        refine seqS r4 v4 q4 ⟨fun σ5 H5 ρ5 M5 t5 r5 v5 ⟨ρ6, M6, se, sm, q5⟩ => ⟨ρ6, M6, tt.trans t5, se.rep r5, v5.sub sm, q5⟩, k.rt.up (t1.trans tt), k.nx.up (t1.trans tt), fun σ5 H5 ρ5 M5 t5 r5 v5 ⟨ρ6, M6, se, sm, q5⟩ => ⟨ρ6, M6, tt.trans t5, se.rep r5, v5.sub sm, q5⟩⟩
    · have e : i = ds.length := by omega
      subst e
      rw [List.drop_length, forW_eqn] at q2
      exact .inl ⟨iw.stop H2 M2 t2 v2 q2.1, k.nx _ _ _ _ (t1.trans t2) r2 v2 q2.2⟩
theorem forW_inv {keep : Ms → Prop} {D : Ends'} {ds : List Dv} {ρ : Env'} {M : Ms} (P : Nat → Env' → Ms → Prop) (h0 : P 0 ρ M) (hk : ∀ i ρ M, i ≤ ds.length → P i ρ M → keep M)
    (hs : ∀ i d ρ M, ds[i]? = some d → P i ρ M → g d ρ M fun ρ1 M1 => t { D with nx := wk (P (i + 1)), ct := wk (P (i + 1)), bk := D.nx } ρ1 M1) (hd : ∀ ρ M, P ds.length ρ M → D.nx ρ M) : forW keep g t D ds ρ M := by
  have main : ∀ (n i : Nat), i + n = ds.length → ∀ ρ M, P i ρ M → forW keep g t D (ds.drop i) ρ M := by
    intro n
    induction n with
    | zero =>
      intro i hi ρ M p
      have e : i = ds.length := by omega
      subst e
      rw [List.drop_length, forW_eqn]
      exact ⟨hk _ _ _ (Nat.le_refl _) p, hd _ _ p⟩
    | succ n ih =>
      intro i hi ρ M p
      have hlt : i < ds.length := by omega
      rw [drop_cons (List.getElem?_eq_getElem hlt), forW_eqc]
      exact ⟨hk _ _ _ (by omega) p, P (i + 1), fun ρ1 M1 p1 => ih (i + 1) (by omega) ρ1 M1 p1, hs i _ ρ M (List.getElem?_eq_getElem hlt) p⟩
  simpa using main ds.length 0 (by omega) ρ M h0
end
end HC
set_option maxHeartbeats 4000000
namespace HC
open PySem L2
inductive Tg where
  | nm (i : Nat)
  | tp (ts : List Tg)
mutual
def Tg.g (K : PySem.W.Frag) : Tg → TG
  | .nm i => gName i
  | .tp ts => fun v σ H Q => gTup K ts.length (Tg.gs K ts) v σ H Q ∨ gLst K ts.length (Tg.gs K ts) v σ H Q
def Tg.gs (K : PySem.W.Frag) : List Tg → TGs
  | [] => gNil
  | t :: ts => gCons (Tg.g K t) (Tg.gs K ts)
end
mutual
def Tg.put : Tg → Dv → Env' → Ms → Option Env'
  | .nm i, d, ρ, _ => some (ρ.set i (some d))
  | .tp ts, d, ρ, M => match itemsA d M with
    | some ds => Tg.puts ts ds ρ M
    | none => none
def Tg.puts : List Tg → List Dv → Env' → Ms → Option Env'
  | [], [], ρ, _ => some ρ
  | t :: ts, d :: ds, ρ, M => (Tg.put t d ρ M).bind fun ρ1 => Tg.puts ts ds ρ1 M
  | _, _, _, _ => none
end
mutual
def Tg.slots : Tg → List Nat
  | .nm i => [i]
  | .tp ts => Tg.slotss ts
def Tg.slotss : List Tg → List Nat
  | [] => []
  | t :: ts => Tg.slots t ++ Tg.slotss ts
end
theorem wipe_set_not : ∀ {vs : List Nat} {σ : L2.St} {i : Nat} {x : Option V}, i ∉ vs → wipe (σ.set i x) vs = (wipe σ vs).set i x
  | [], _, _, _, _ => rfl
  | v :: vs, σ, i, x, h => by
    have h1 : i ≠ v := fun e => h (by simp [e])
    have h2 : i ∉ vs := fun e => h (by simp [e])
    show (wipe (σ.set i x) vs).set v none = ((wipe σ vs).set v none).set i x
    rw [wipe_set_not h2, List.set_comm _ _ h1]
theorem wipe_set : ∀ {vs : List Nat} {σ : L2.St} {i : Nat} {x : Option V}, i ∈ vs → wipe (σ.set i x) vs = wipe σ vs
  | v :: vs, σ, i, x, h => by
    show (wipe (σ.set i x) vs).set v none = (wipe σ vs).set v none
    by_cases h2 : i ∈ vs
    · rw [wipe_set h2]
    · have e : i = v := by
        rcases List.mem_cons.mp h with e | e
        · exact e
        · exact absurd e h2
      subst e
      rw [wipe_set_not h2, List.set_set]
theorem wipe_wipe {vs : List Nat} {σ : L2.St} : ∀ {ws : List Nat}, (∀ i ∈ ws, i ∈ vs) → wipe (wipe σ ws) vs = wipe σ vs
  | [], _ => rfl
  | w :: ws, h => by
    show wipe ((wipe σ ws).set w none) vs = wipe σ vs
    rw [wipe_set (h w (by simp)), wipe_wipe fun i hi => h i (by simp [hi])]
theorem puts_len {M : Ms} : ∀ {ts : List Tg} {ds : List Dv} {ρ ρ' : Env'}, Tg.puts ts ds ρ M = some ρ' → ds.length = ts.length
  | [], [], _, _, _ => rfl
  | [], d :: ds, _, _, h => by simp [Tg.puts] at h
  | t :: ts, [], _, _, h => by simp [Tg.puts] at h
  | t :: ts, d :: ds, ρ, ρ', h => by
    simp only [Tg.puts] at h
    cases e : Tg.put t d ρ M with
    | none => rw [e] at h; cases h
    | some ρ1 =>
      rw [e] at h
      simp only [Option.bind_some] at h
      simp [puts_len h]
section
variable {K : PySem.W.Frag} {M : Ms} {H : Hp} {vs : List Nat}
mutual
theorem Tg.ok : ∀ {t : Tg} {d : Dv} {v : V} {ρ ρ' : Env'} {σ : L2.St} {Q : L2.St → Hp → Prop}, Rep K H d v → RepE K H ρ σ → View K M H → Tg.put t d ρ M = some ρ' → (∀ i ∈ Tg.slots t, i ∈ vs) → (∀ σ', RepE K H ρ' σ' → wipe σ' vs = wipe σ vs → Q σ' H) → Tg.g K t v σ H Q
  | .nm i, d, v, ρ, ρ', σ, Q, rd, hr, hv, h, hs, k => by
    simp only [Tg.put, Option.some.injEq] at h
    subst h
    simp only [Tg.g, gName]
    exact k _ (hr.set i rd) (wipe_set (hs i (by simp [Tg.slots])))
  | .tp ts, d, v, ρ, ρ', σ, Q, rd, hr, hv, h, hs, k => by
    simp only [Tg.put] at h
    cases e : itemsA d M with
    | none => rw [e] at h; cases h
    | some ds =>
      rw [e] at h
      obtain ⟨a, xs, e1, s, z⟩ := itemsA_ok rd hv e
      have main := Tg.oks z hr hv h (fun i hi => hs i (by simpa [Tg.slots] using hi)) k
      simp only [Tg.g]
      rcases s with s | s
      · exact .inl ⟨a, xs, e1, s, by rw [← z.length]; exact main.1, main.2⟩
      · exact .inr ⟨a, xs, e1, s, by rw [← z.length]; exact main.1, main.2⟩
theorem Tg.oks : ∀ {ts : List Tg} {ds : List Dv} {xs : List V} {ρ ρ' : Env'} {σ : L2.St} {Q : L2.St → Hp → Prop}, Reps K H ds xs → RepE K H ρ σ → View K M H → Tg.puts ts ds ρ M = some ρ' → (∀ i ∈ Tg.slotss ts, i ∈ vs) → (∀ σ', RepE K H ρ' σ' → wipe σ' vs = wipe σ vs → Q σ' H) →
    ds.length = ts.length ∧ Tg.gs K ts xs σ H Q
  | [], [], xs, ρ, ρ', σ, Q, rd, hr, hv, h, hs, k => by
    simp only [Tg.puts, Option.some.injEq] at h
    subst h
    refine ⟨rfl, ?_⟩
    simp only [Tg.gs, gNil]
    exact ⟨rd.nil_inv, k _ hr rfl⟩
  | [], d :: ds, _, _, _, _, _, _, _, _, h, _, _ => by simp [Tg.puts] at h
  | t :: ts, [], _, _, _, _, _, _, _, _, h, _, _ => by simp [Tg.puts] at h
  | t :: ts, d :: ds, xs, ρ, ρ', σ, Q, rd, hr, hv, h, hs, k => by
    simp only [Tg.puts] at h
    cases e : Tg.put t d ρ M with
    | none => rw [e] at h; cases h
    | some ρ1 =>
      rw [e] at h
      simp only [Option.bind_some] at h
      obtain ⟨v, r, e1, r1, r2⟩ := rd.cons_inv
      have hs1 : ∀ i ∈ Tg.slots t, i ∈ vs := fun i hi => hs i (by simp [Tg.slotss, hi])
      have hs2 : ∀ i ∈ Tg.slotss ts, i ∈ vs := fun i hi => hs i (by simp [Tg.slotss, hi])
      have hl : ds.length = ts.length := puts_len h
      refine ⟨by simp [hl], ?_⟩
      simp only [Tg.gs, gCons]
      exact ⟨v, r, e1, Tg.ok r1 hr hv e hs1 fun σ1 hr1 w1 => (Tg.oks r2 hr1 hv h hs2 fun σ2 hr2 w2 => k σ2 hr2 (w2.trans w1)).2⟩
end
end
def aYes : RT := fun _ M Q => Q true M
def ATs (X : Cx) (ifs : List Expr) (t : RT) : Prop := PTs X ifs (cT X.K t)
theorem pts_imp {X : Cx} {e : List Expr} {t t' : TT} (h : PTs X e t) (f : ∀ σ H Q, t' σ H Q → t σ H Q) : PTs X e t' := ⟨fun pins s σ H Q I q => h.run pins s σ H Q I (f _ _ _ q)⟩
theorem ats_nil {X : Cx} : ATs X [] aYes := pts_imp pts_nil fun σ H Q' ⟨ρ, M, Q, hr, hv, q, k⟩ => k _ _ _ (Tp.refl H) hv q
theorem ats_one {X : Cx} {c : Expr} {t : RT} (h : AT X c t) : ATs X [c] t := pts_one h
def lcT (tg : Tg) (own : List Nat) (tt : RT) (te : RE) (ρ : Env') (D : Addr) (d : Dv) (N : Ms → Prop) (M : Ms) : Prop :=
  ∃ ρ', Tg.put tg d (wipeA ρ own) M = some ρ' ∧ tt ρ' M fun b M2 => onIf b (te ρ' M2 fun y M3 => ∃ acc, M3 D = some (.lst acc) ∧ acc.length < sizeLine ∧ wkM N (mup M3 D (.lst (acc ++ [y])))) (wkM N M2)
def lcW0 (keep : Ms → Prop) (tg : Tg) (own : List Nat) (tt : RT) (te : RE) (ρ : Env') (D : Addr) (Q : Ms → Prop) : List Dv → Ms → Prop
  | [], M => keep M ∧ Q M
  | d :: ds, M => keep M ∧ ∃ N : Ms → Prop, (∀ M1, N M1 → lcW0 keep tg own tt te ρ D Q ds M1) ∧ lcT tg own tt te ρ D d N M
@[irreducible] def lcW (keep : Ms → Prop) (tg : Tg) (own : List Nat) (tt : RT) (te : RE) (ρ : Env') (D : Addr) (Q : Ms → Prop) (ds : List Dv) (M : Ms) : Prop := lcW0 keep tg own tt te ρ D Q ds M
theorem lcW_eqn {keep : Ms → Prop} {tg : Tg} {own : List Nat} {tt : RT} {te : RE} {ρ : Env'} {D : Addr} {Q : Ms → Prop} {M : Ms} : lcW keep tg own tt te ρ D Q [] M = (keep M ∧ Q M) := by unfold lcW; rfl
theorem lcW_eqc {keep : Ms → Prop} {tg : Tg} {own : List Nat} {tt : RT} {te : RE} {ρ : Env'} {D : Addr} {Q : Ms → Prop} {d : Dv} {ds : List Dv} {M : Ms} : lcW keep tg own tt te ρ D Q (d :: ds) M = (keep M ∧ ∃ N : Ms → Prop, (∀ M1, N M1 → lcW keep tg own tt te ρ D Q ds M1) ∧ lcT tg own tt te ρ D d N M) := by unfold lcW; rfl
def aLc (ai : RI) (tg : Tg) (own : List Nat) (tt : RT) (te : RE) : RE := fun ρ M Q => ai ρ M fun ds keep M1 => ∀ D, M1 D = none → lcW keep tg own tt te ρ D (Q (.ref D)) ds (mup M1 D (.lst []))
section
variable {X : Cx} {pos : Pos} {target iter elt : Expr} {ifs : List Expr} {ai : RI} {tt : RT} {te : RE}
theorem lc_imp {K : PySem.W.Frag} {tg : Tg} {own : List Nat} (hsl : ∀ i ∈ Tg.slots tg, i ∈ own) : ∀ σ H Q, cE K (aLc ai tg own tt te) σ H Q → tLc (cI K ai) (Tg.g K tg) (cT K tt) (cE K te) own σ H Q := fun σ H Q' h => by
  obtain ⟨ρ, M, Q, hr, hv, q, k⟩ := h
  refine ⟨ρ, M, _, hr, hv, q, fun J H1 ds keep M1 t1 v1 q1 iw D hD => ?_⟩
  have q2 := q1 D (v1.free hD)
  have tD : Tp K H1 (upd H1 D (.lst [])) := Tp.new hD
  refine ⟨fun i m H2 => m = ds.length - i ∧ i ≤ ds.length ∧ ∃ M2, Tp K H1 H2 ∧ View K M2 H2 ∧ lcW keep tg own tt te ρ D (Q (.ref D)) (ds.drop i) M2, ⟨ds.length, by simp, Nat.zero_le _, _, tD, v1.put (c := .lst []) (by rw [hD]; trivial) ⟨[], upd_same, Reps.nil⟩, by simpa using q2⟩, ?_⟩
  rintro i m H2 ⟨rfl, hi', M2, t2, v2, w2⟩
  by_cases hlt : i < ds.length
  · rw [drop_cons (List.getElem?_eq_getElem hlt), lcW_eqc] at w2
    obtain ⟨kp, Nx, hN, w2⟩ := w2
    refine .inr ⟨iw.go i H2 M2 hlt t2 v2 kp, fun H3 => ∃ M3, Tp K H1 H3 ∧ View K M3 H3 ∧ Nx M3, ?_, ?_⟩
    · rintro H3 ⟨M3, t3, v3, n3⟩
      exact ⟨ds.length - (i + 1), by omega, rfl, hlt, M3, t3, v3, hN _ n3⟩
    · intro x H3 hy
      obtain ⟨d, hd, t3, rd, v3, _⟩ := iw.yld i H2 M2 x H3 hlt t2 v2 kp hy
      have e : d = ds[i] := by rw [List.getElem?_eq_getElem hlt] at hd; exact (Option.some.inj hd).symm
      subst e
      obtain ⟨ρ', hput, w3⟩ := w2
      have tt3 : Tp K H1 H3 := t2.trans t3
      refine Tg.ok rd ((hr.mono (t1.trans tt3)).wipe own) v3 hput hsl fun σ3 hr3 hw => ⟨hw.trans (wipe_wipe fun _ z => z), ?_⟩
      refine seqT hr3 v3 w3 fun b H4 M4 t4 v4 w4 => ?_
      cases b with
      | false =>
        obtain ⟨M6, sm, w4⟩ := w4
        exact ⟨M6, tt3.trans t4, v4.sub sm, w4⟩
      | true =>
        refine seqE (hr3.mono t4) v4 w4 fun y H5 dy M5 t5 r5 v5 w5 => ?_
        obtain ⟨acc, ha, hz, M6, sm, n5⟩ := w5
        obtain ⟨vs, e5, z5⟩ := v5 D _ ha
        refine ⟨vs, e5, by rw [← z5.length]; exact hz, M6, ((tt3.trans t4).trans t5).trans (Tp.put (v5.soft ha)), View.sub (M' := mup M5 D (.lst (acc ++ [dy]))) (v5.put (c := .lst (acc ++ [dy])) (v5.soft ha) ⟨vs ++ [y], upd_same, ?_⟩) sm, n5⟩
        exact ((z5.append (Reps.cons r5 Reps.nil)).mono (Tp.put (v5.soft ha)))
  · have e : i = ds.length := by omega
    subst e
    rw [List.drop_length, lcW_eqn] at w2
    exact .inl ⟨iw.stop H2 M2 t2 v2 w2.1, k _ _ _ _ (t1.trans t2) (by simp only [Rep]) v2 w2.2⟩
theorem ae_lc {own : List (Str × Nat)} {tg : Tg} {scope : Scope} (hsl : ∀ i ∈ Tg.slots tg, i ∈ own.map (·.2)) (hc : X.calm = true) (hN : X.N.Nodup) (hi : AI X target iter ai) (ok : BlkOk X.N X.env.scope scope own)
    (hg : ∀ (s : Shared) (H : Hp) (C : Addr) (cl : List (Str × Addr)) (fp : List Addr), PG (X.blk s H scope (compEnvC scope cl C X.env) fp) target (Tg.g X.K tg)) (ht : ∀ (s : Shared) (H : Hp) (C : Addr) (cl : List (Str × Addr)) (fp : List Addr), ATs (X.blk s H scope (compEnvC scope cl C X.env) fp) ifs tt)
    (he : ∀ (s : Shared) (H : Hp) (C : Addr) (cl : List (Str × Addr)) (fp : List Addr), AE (X.blk s H scope (compEnvC scope cl C X.env) fp) elt te) (hs : ∀ x, foldedSetIterable iter X.env x = pure x := by intro _; rfl) :
    AE X (.ListComp elt [⟨target, iter, ifs, 0⟩] scope pos) (aLc ai tg (own.map (·.2)) tt te) := pe_imp (pe_lc (tt := cT X.K tt) (te := cE X.K te) hc hN hi ok hg ht he hs) (lc_imp hsl)
theorem as_setLc (i : Nat) {y : Str} {py spos : Pos} {own : List (Str × Nat)} {tg : Tg} {scope : Scope} (hsl : ∀ i ∈ Tg.slots tg, i ∈ own.map (·.2)) (hc : X.calm = true) (hN : X.N.Nodup) (hy : X.N[i]? = some y) (hyl : X.env.scope.names.lookup y = some .local)
    (hsw : swapsWith (.ListComp elt [⟨target, iter, ifs, 0⟩] scope pos) (some (.Name y py)) spos.line X.env = pure true) (hi : AI X target iter ai) (ok : BlkOk X.N X.env.scope scope own)
    (hg : ∀ (s : Shared) (H : Hp) (C : Addr) (cl : List (Str × Addr)) (fp : List Addr), PG (X.blk s H scope (compEnvC scope cl C X.env) fp) target (Tg.g X.K tg)) (ht : ∀ (s : Shared) (H : Hp) (C : Addr) (cl : List (Str × Addr)) (fp : List Addr), ATs (X.blk s H scope (compEnvC scope cl C X.env) fp) ifs tt)
    (he : ∀ (s : Shared) (H : Hp) (C : Addr) (cl : List (Str × Addr)) (fp : List Addr), AE (X.blk s H scope (compEnvC scope cl C X.env) fp) elt te) (hs : ∀ x, foldedSetIterable iter X.env x = pure x := by intro _; rfl) :
    AS X (.Assign [.Name y py] (.ListComp elt [⟨target, iter, ifs, 0⟩] scope pos) spos) (aAsg (aLc ai tg (own.map (·.2)) tt te) (agName i)) := ps_imp (ps_setLc (tt := cT X.K tt) (te := cE X.K te) hc hN hy hyl hsw hi ok hg ht he hs) (asg_name_imp (lc_imp hsl))
end
end HC
set_option maxHeartbeats 4000000
namespace HC
open PySem L2 PyProof.Rows
section
variable {X : Cx} {a b c e : Expr} {ta tb tc te : RE} {pos : Pos} {K : PySem.W.Frag}
def isNon : Dv → Bool
  | .non => true
  | _ => false
theorem isNon_ok {H : Hp} {d : Dv} {v : V} (r : Rep K H d v) : decide (v = .non) = isNon d := by
  cases d with
  | non => rw [rep_non_inv r]; rfl
  | bl _ => rw [rep_bl_inv r]; rfl
  | int _ => rw [rep_int_inv r]; rfl
  | str _ => rw [rep_str_inv r]; rfl
  | ref _ => rw [rep_ref_inv r]; rfl
  | ty _ => rw [rep_ty_inv r]; rfl
  | tup _ => obtain ⟨a, vs, e, _⟩ := rep_tup_inv r; rw [e]; rfl
  | rol _ => obtain ⟨a, vs, e, _⟩ := rep_rol_inv r; rw [e]; rfl
  | tuc _ => obtain ⟨a, vs, e, _⟩ := rep_tuc_inv r; rw [e]; rfl
  | exc _ _ => obtain ⟨a, e, _⟩ := rep_exc_inv r; rw [e]; rfl
def aIsB (x y : Dv) (Q : Bool → Prop) : Prop := match y with
  | .non => Q (isNon x)
  | .bl b => match x with | .bl a => Q (a == b) | _ => False
  | _ => False
def aIs : AR2 := fun x y M Q => aIsB x y fun b => Q (.bl b) M
def aIsNot : AR2 := fun x y M Q => aIsB x y fun b => Q (.bl (!b)) M
def rIsH : R2 := fun x y H Q => (y = .non ∧ Q (.bl (decide (x = .non))) H) ∨ (∃ a b, x = .bl a ∧ y = .bl b ∧ Q (.bl (decide (a = b))) H)
def rIsNotH : R2 := fun x y H Q => (y = .non ∧ Q (.bl (!decide (x = .non))) H) ∨ (∃ a b, x = .bl a ∧ y = .bl b ∧ Q (.bl (!decide (a = b))) H)
theorem ab_is : Ab2 K rIsH aIs := by
  intro H M x y dx dy Q Q' rx ry hv q k
  cases dy <;> first | exact q.elim | skip
  case non => exact .inl ⟨rep_non_inv ry, by rw [isNon_ok rx]; exact k _ _ _ _ (Tp.refl H) rep_bl hv q⟩
  case bl b =>
    cases dx <;> first | exact q.elim | skip
    case bl a =>
      refine .inr ⟨a, b, rep_bl_inv rx, rep_bl_inv ry, ?_⟩
      have e : decide (a = b) = (a == b) := by cases a <;> cases b <;> rfl
      rw [e]
      exact k _ _ _ _ (Tp.refl H) rep_bl hv q
theorem ab_isnot : Ab2 K rIsNotH aIsNot := by
  intro H M x y dx dy Q Q' rx ry hv q k
  cases dy <;> first | exact q.elim | skip
  case non => exact .inl ⟨rep_non_inv ry, by rw [isNon_ok rx]; exact k _ _ _ _ (Tp.refl H) rep_bl hv q⟩
  case bl b =>
    cases dx <;> first | exact q.elim | skip
    case bl a =>
      refine .inr ⟨a, b, rep_bl_inv rx, rep_bl_inv ry, ?_⟩
      have e : decide (a = b) = (a == b) := by cases a <;> cases b <;> rfl
      rw [e]
      exact k _ _ _ _ (Tp.refl H) rep_bl hv q
theorem op_isH : OpR X (compareOp .Is) rIsH := opr_or op_isN op_is_bl
theorem op_isnotH : OpR X (compareOp .IsNot) rIsNotH := opr_or op_notN op_isnot_bl
theorem ae_isnot (ha : AE X a ta) (hb : AE X b tb) : AE X (.Compare a [.IsNot] [b] pos) (aOp aIsNot ta tb) := ae_cmp op_isnotH ab_isnot ha hb (nomark _)
theorem at_is (ha : AE X a ta) (hb : AE X b tb) : AT X (.Compare a [.Is] [b] pos) (aB (aOp aIs ta tb)) := at_cmp op_isH ab_is ha hb (nomark _)
theorem at_isnot (ha : AE X a ta) (hb : AE X b tb) : AT X (.Compare a [.IsNot] [b] pos) (aB (aOp aIsNot ta tb)) := at_cmp op_isnotH ab_isnot ha hb (nomark _)
def aChain (r r' : AR2) (ta tb tc : RE) : RE := fun ρ M Q => ta ρ M fun x M1 => tb ρ M1 fun y M2 => r x y M2 fun z M3 => onB z fun k => onIf k (tc ρ M3 fun w M4 => r' y w M4 Q) (Q (.bl false) M3)
theorem chain_imp {r r' : R2} {ar ar' : AR2} (h : Ab2 K r ar) (h' : Ab2 K r' ar') : ∀ σ H Q, cE K (aChain ar ar' ta tb tc) σ H Q → tChain r r' (cE K ta) (cE K tb) (cE K tc) σ H Q := fun σ H Q' ⟨ρ, M, Q, hr, hv, q, k⟩ =>
  seqE hr hv q fun v H1 d M1 t1 r1 v1 q1 => seqE (hr.mono t1) v1 q1 fun v2 H2 d2 M2 t2 r2 v2' q2 => h H2 M2 v v2 d d2 _ _ (r1.mono t2) r2 v2' q2 fun z H3 dz M3 t3 r3 v3 q3 => by
    obtain ⟨kk, e, q3⟩ := onB_ex q3
    subst e
    refine ⟨kk, rep_bl_inv r3, ?_⟩
    have t23 := t1.trans (t2.trans t3)
    cases kk with
    | false => exact k _ _ _ _ t23 rep_bl v3 q3
    | true => exact seqE (hr.mono t23) v3 q3 fun w H4 dw M4 t4 r4 v4 q4 => h' H4 M4 _ _ _ _ Q Q' (r2.mono (t3.trans t4)) r4 v4 q4 (k.up (t23.trans t4))
def keyD : Dv → Option Key
  | .int i => some (.inl i)
  | .str x => some (.inr x)
  | _ => none
def keysD : List Dv → Option (List Key)
  | [] => some []
  | d :: ds => (keyD d).bind fun k => (keysD ds).map fun r => k :: r
def getK {κ : Type} [DecidableEq κ] (kvs : List (κ × Dv)) (k : κ) : Option Dv := (kvs.find? fun kv => decide (kv.1 = k)).map (·.2)
theorem keyD_ok {H : Hp} {d : Dv} {v : V} {k : Key} (r : Rep K H d v) (h : keyD d = some k) : v = kV k := by
  cases d <;> first | cases h | skip
  case int i => exact rep_int_inv r
  case str x => exact rep_str_inv r
theorem keysD_ok {H : Hp} : ∀ {ds : List Dv} {vs : List V} {ks : List Key}, Reps K H ds vs → keysD ds = some ks → vs = ks.map kV
  | [], _, _, r, h => by cases h; rw [r.nil_inv]; rfl
  | d :: ds, _, ks, r, h => by
    obtain ⟨v, w, rfl, r1, r2⟩ := r.cons_inv
    simp only [keysD] at h
    cases e : keyD d with
    | none => rw [e] at h; cases h
    | some k =>
      rw [e] at h
      cases e2 : keysD ds with
      | none => rw [e2] at h; cases h
      | some r' =>
        rw [e2] at h
        simp only [Option.bind_some, Option.map_some, Option.some.injEq] at h
        subst h
        rw [keyD_ok r1 e, keysD_ok r2 e2]; rfl
theorem getK_ok {κ : Type} [DecidableEq κ] {H : Hp} : ∀ {kds : List (κ × Dv)} {kvs : List (κ × V)} {k : κ}, Paired (fun (p : κ × Dv) (q : κ × V) => p.1 = q.1 ∧ Rep K H p.2 q.2) kds kvs →
    (getK kds k = none ∧ valV kvs k = none) ∨ ∃ d v, getK kds k = some d ∧ valV kvs k = some v ∧ Rep K H d v
  | _, _, _, .nil => .inl ⟨rfl, rfl⟩
  | (k1, d) :: kds, (k2, v) :: kvs, k, .cons ⟨e, r⟩ t => by
    have e' : k1 = k2 := e
    subst e'
    by_cases h : k1 = k
    · refine .inr ⟨d, v, ?_, ?_, r⟩
      · simp [getK, h]
      · simp [valV, h]
    · rcases getK_ok (k := k) t with ⟨h1, h2⟩ | ⟨d', v', h1, h2, h3⟩
      · refine .inl ⟨?_, ?_⟩
        · simp only [getK, List.find?_cons, h, decide_false]; exact h1
        · simp only [valV, List.find?_cons, h, decide_false]; exact h2
      · refine .inr ⟨d', v', ?_, ?_, h3⟩
        · simp only [getK, List.find?_cons, h, decide_false]; exact h1
        · simp only [valV, List.find?_cons, h, decide_false]; exact h2
theorem ix_dict (hu : X.A.units + 1 < cLine) : IxR X (fun x y H Q => ∃ a v, x = .ref a ∧ DGet H a y (some v) ∧ Q v H) := by
  intro value slice pins s σ H x y v u Q I rx ry h hs
  obtain ⟨a, w, rfl, g, q⟩ := h
  obtain rfl : v = Value.ref a := rx
  have hT := dict_typeIs I g
  unfold subscriptTail
  refine wpAny_bind ?_
  rw [getitemInPython_of_ne hT.not_modules]
  refine wpAny_bind (wpAny_specialOf hT PySem.F.slot_dict_getitem.lookup ?_)
  have fin : wpAny (model X.prog X.w) X.A (subscripted slice false (.ref a) u) (fun r s₃ => wpAny (model X.prog X.w) X.A (letTemporaryGo value (.ref a) r >>= fun _ => pure r) (EP X pins σ Q) X.xe s₃) X.xe s := by
    rw [hs]
    exact wpAny_operating (wpAny_mono (d_getItem hu I g ry fun w' s3 I3 rw' => (⟨w, H, I3, rw', q⟩ : EP X pins σ Q w' s3)) (fun r s₃ h₃ => wpAny_bind (wpAny_letTemporaryGo (wpAny_pure h₃))) fun _ _ x => x)
  first
    | exact wpAny_pure (wpAny_bind fin)
    | exact wpAny_bind (wpAny_pure (wpAny_bind fin))
    | exact wpAny_bind fin
def rIxH (K : PySem.W.Frag) : R2 := fun x y H Q => rIx K x y H Q ∨ (∃ a v, x = .ref a ∧ DGet H a y (some v) ∧ Q v H)
theorem ix_H (hu : X.A.units + 1 < cLine) : IxR X (rIxH X.K) := IxR.or ix_seq (ix_dict hu)
def aIx : AR2 := fun x y M Q => match x with
  | .tup xs => onI y fun i => onS (atI xs i) fun d => Q d M
  | .rol xs => onI y fun i => onS (atI xs i) fun d => Q d M
  | .str z => onI y fun i => z.length ≤ sizeLine ∧ onS (atI z.cps.toList i) fun c => Q (.str ⟨#[c]⟩) M
  | .ref a => match M a with
    | some (.lst xs) => onI y fun i => onS (atI xs i) fun d => Q d M
    | some (.dic kvs) => onS (keyD y) fun k => onS (getK kvs k) fun d => Q d M
    | _ => False
  | _ => False
theorem atI_rep {H : Hp} {ds : List Dv} {vs : List V} {i : Int} {d : Dv} (r : Reps K H ds vs) (h : atI ds i = some d) : ∃ v, atI vs i = some v ∧ Rep K H d v := by
  unfold atI at h ⊢
  rw [r.length] at h
  cases e : ixN vs.length i with
  | none => rw [e] at h; cases h
  | some j =>
    rw [e] at h
    simp only [Option.bind_some] at h ⊢
    exact r.get h
theorem ab_ix : Ab2 K (rIxH K) aIx := by
  intro H M x y dx dy Q Q' rx ry hv q k
  cases dx <;> first | exact q.elim | skip
  case tup xs =>
    obtain ⟨i, e, q4⟩ := onI_ex q
    obtain ⟨d, h, q5⟩ := onS_ex q4
    subst e
    obtain ⟨a, vs, e1, s, r⟩ := rep_tup_inv rx
    obtain ⟨v, h1, h2⟩ := atI_rep r h
    exact .inl (.inr (.inl ⟨a, vs, i, v, e1, rep_int_inv ry, s, h1, k _ _ _ _ (Tp.refl H) h2 hv q5⟩))
  case rol xs =>
    obtain ⟨i, e, q4⟩ := onI_ex q
    obtain ⟨d, h, q5⟩ := onS_ex q4
    subst e
    obtain ⟨a, vs, e1, s, r⟩ := rep_rol_inv rx
    obtain ⟨v, h1, h2⟩ := atI_rep r h
    exact .inl (.inl ⟨a, vs, i, v, e1, rep_int_inv ry, s.l, h1, k _ _ _ _ (Tp.refl H) h2 hv q5⟩)
  case str z =>
    obtain ⟨i, e, hl, q4⟩ := onI_ex q
    obtain ⟨c, h, q5⟩ := onS_ex q4
    subst e
    exact .inl (.inr (.inr ⟨z, i, c, rep_str_inv rx, rep_int_inv ry, hl, h, k _ _ _ _ (Tp.refl H) rep_str hv q5⟩))
  case ref a =>
    simp only [aIx] at q
    split at q
    · next xs e =>
      obtain ⟨i, e1, q4⟩ := onI_ex q
      obtain ⟨d, h, q5⟩ := onS_ex q4
      subst e1
      obtain ⟨vs, e2, r⟩ := view_lst hv e
      obtain ⟨v, h1, h2⟩ := atI_rep r h
      exact .inl (.inl ⟨a, vs, i, v, rep_ref_inv rx, rep_int_inv ry, .inl (.inl e2), h1, k _ _ _ _ (Tp.refl H) h2 hv q5⟩)
    · next kvs e =>
      obtain ⟨kk, e1, q⟩ := onS_ex q
      obtain ⟨d, h, q⟩ := onS_ex q
      obtain ⟨vs, e2, r⟩ := (show ∃ kvs', H a = some (.dK kvs') ∧ Paired (fun (p : Key × Dv) (q : Key × V) => p.1 = q.1 ∧ Rep K H p.2 q.2) kvs kvs' from hv a _ e)
      rcases getK_ok (k := kk) r with ⟨h1, _⟩ | ⟨d', v, h1, h2, h3⟩
      · rw [h1] at h; cases h
      · rw [h1] at h; cases h
        exact .inr ⟨a, v, rep_ref_inv rx, .inl ⟨vs, kk, .inl e2, keyD_ok ry e1, h2.symm⟩, k _ _ _ _ (Tp.refl H) h3 hv q⟩
    · exact q.elim
theorem ae_ix (hu : X.A.units + 1 < cLine) (ha : AE X a ta) (hb : AE X b tb) (hs : PlainIx b := by exact fun _ _ => rfl) : AE X (.Subscript a b pos) (aOp aIx ta tb) := pe_imp (pe_ix (ix_H hu) ha hb hs) (aop_imp ab_ix)
abbrev RO := Env' → Ms → (Option Int → Ms → Prop) → Prop
def cO (K : PySem.W.Frag) (t : RO) : TO := fun σ H Q' => ∃ ρ M Q, RepE K H ρ σ ∧ View K M H ∧ t ρ M Q ∧ ∀ o H' M', Tp K H H' → View K M' H' → Q o M' → Q' o H'
def AO (X : Cx) (e : Option Expr) (t : RO) : Prop := PO X e (cO X.K t)
theorem po_imp {e : Option Expr} {t t' : TO} (h : PO X e t) (f : ∀ σ H Q, t' σ H Q → t σ H Q) : PO X e t' := ⟨fun pins s σ H Q I q => h.run pins s σ H Q I (f _ _ _ q)⟩
def aoN : RO := fun _ M Q => Q none M
def aoS (t : RE) : RO := fun ρ M Q => t ρ M fun d M1 => onI d fun i => Q (some i) M1
theorem ao_none : AO X none aoN := po_imp po_none fun σ H Q' ⟨ρ, M, Q, hr, hv, q, k⟩ => k _ _ _ (Tp.refl H) hv q
theorem ao_some (h : AE X e te) : AO X (some e) (aoS te) := po_imp (po_some h) fun σ H Q' ⟨ρ, M, Q, hr, hv, q, k⟩ => seqE hr hv q fun v H1 d M1 t1 r1 v1 q1 => by
  obtain ⟨i, e, q1⟩ := onI_ex q1
  subst e
  exact ⟨i, rep_int_inv r1, k _ _ _ t1 v1 q1⟩
def cutA (xs : List Dv) (lo hi : Option Int) : List Dv := (xs.drop (HT.sIx xs.length 0 lo)).take (HT.sIx xs.length xs.length hi - HT.sIx xs.length 0 lo)
def lstC : Option Cell → Option (List Dv)
  | some (.lst xs) => some xs
  | _ => none
theorem lstC_eq {o : Option Cell} {xs : List Dv} (h : lstC o = some xs) : o = some (.lst xs) := by
  cases o with
  | none => cases h
  | some c => cases c <;> first | (cases h; done) | (cases h; rfl)
def aSl (te : RE) (tl th : RO) : RE := fun ρ M Q => te ρ M fun x M1 => tl ρ M1 fun lo M2 => th ρ M2 fun hi M3 => match x with
  | .tup xs => Q (.tup (cutA xs lo hi)) M3
  | .str z => z.length ≤ sizeLine ∧ Q (.str (cutS z lo hi)) M3
  | .rol xs => ∀ p, M3 p = none → Q (.ref p) (mup M3 p (.lst (cutA xs lo hi)))
  | .ref a => onS (lstC (M3 a)) fun xs => ∀ p, M3 p = none → Q (.ref p) (mup M3 p (.lst (cutA xs lo hi)))
  | _ => False
theorem cutA_rep {H : Hp} {ds : List Dv} {vs : List V} (r : Reps K H ds vs) (lo hi : Option Int) : Reps K H (cutA ds lo hi) (cutV vs lo hi) := by
  unfold cutA cutV
  rw [r.length]
  exact (r.drop _).take _
theorem ae_slice {tl th : RO} {lo hi : Option Expr} {p2 : Pos} (he : AE X e te) (hl : AO X lo tl) (hh : AO X hi th) : AE X (.Subscript e (.Slice lo hi none p2) pos) (aSl te tl th) :=
  pe_imp (pe_slice (SlR.or sl_list (SlR.or sl_tupA sl_str)) he hl hh) fun σ H Q' h => by
    obtain ⟨ρ, M, Q, hr, hv, q, k⟩ := h
    refine seqE hr hv q fun v H1 d M1 t1 r1 v1 q1 => ?_
    refine ⟨ρ, M1, _, hr.mono t1, v1, q1, fun lo H2 M2 t2 v2 q2 => ⟨ρ, M2, _, hr.mono (t1.trans t2), v2, q2, fun hi H3 M3 t3 v3 q3 => ?_⟩⟩
    have rd := r1.mono (t2.trans t3)
    have k3 := k.up (t1.trans (t2.trans t3))
    cases d <;> first | exact q3.elim | skip
    case tup xs =>
      obtain ⟨a, vs, e, s, r⟩ := rep_tup_inv rd
      refine .inr (.inl ⟨a, vs, e, s, fun hw => k3 _ _ _ _ (Tp.refl H3) (rep_tup s ?_) v3 q3, fun _ => end_tup (cutA_rep r lo hi) v3 q3 k3⟩)
      have l := r.length
      unfold cutA
      rw [l, hw.1, hw.2]
      simpa [← l] using r
    case str z => exact .inr (.inr ⟨z, rep_str_inv rd, q3.1, k3 _ _ _ _ (Tp.refl H3) rep_str v3 q3.2⟩)
    case rol xs =>
      obtain ⟨a, vs, e, s, r⟩ := rep_rol_inv rd
      exact .inl ⟨a, vs, e, s.l, end_lst (cutA_rep r lo hi) v3 q3 k3⟩
    case ref a =>
      obtain ⟨xs, h1, q4⟩ := onS_ex q3
      replace h1 := lstC_eq h1
      obtain ⟨vs, e, r⟩ := view_lst v3 h1
      exact .inl ⟨a, vs, rep_ref_inv rd, .inl (.inl e), end_lst (cutA_rep r lo hi) v3 q4 k3⟩
abbrev ARC := List Dv → Ms → DK → Prop
def AbC (K : PySem.W.Frag) (r : List V → Hp → VK → Prop) (ar : ARC) : Prop := ∀ H M vs ds Q Q', Reps K H ds vs → View K M H → ar ds M Q → LkV K H Q Q' → r vs H Q'
def aFn (ar : ARC) (t : RA) : RE := fun ρ M Q => t ρ M fun ds M1 => ar ds M1 Q
variable {x : Str} {bid T : String} {r : List V → Hp → VK → Prop} {ar : ARC} {p : Pos} {es : List Expr} {t : RA}
theorem afn_imp (h : AbC K r ar) : ∀ σ H Q, cE K (aFn ar t) σ H Q → tCB r (cA K t) σ H Q := fun σ H Q' ⟨ρ, M, Q, hr, hv, q, k⟩ =>
  seqA hr hv q fun vs H1 ds M1 t1 r1 v1 q1 => h H1 M1 vs ds Q Q' r1 v1 q1 (k.up t1)
theorem ae_callB (hc : CallR X (.builtin bid) r) (h : AbC X.K r ar) (ha : AA X (e :: es) t) (hm : X.mg x = none) (hv : bootBuiltins x = some (.builtin bid)) (hg : Gl X x := by rfl) (hn : x ≠ "__name__" := by decide) (hdb : (x == ("__debug__" : Str)) = false := by decide)
    (he : starEach (e :: es) X.env = (false, eval e X.env) :: starEach es X.env := by rfl) (hpl : (backTo pos (starEach es X.env)).any (·.1) = false := by rfl) : AE X (.Call (.Name x p) (e :: es) [] pos) (aFn ar t) := pe_imp (pe_callB hc hg hm hv ha hn hdb he hpl) (afn_imp h)
theorem ae_callTy (hc : CallR X (.type T) r) (h : AbC X.K r ar) (ha : AA X (e :: es) t) (hm : X.mg x = none) (hv : bootBuiltins x = some (.type T)) (hg : Gl X x := by rfl) (hn : x ≠ "__name__" := by decide) (hdb : (x == ("__debug__" : Str)) = false := by decide)
    (he : starEach (e :: es) X.env = (false, eval e X.env) :: starEach es X.env := by rfl) (hpl : (backTo pos (starEach es X.env)).any (·.1) = false := by rfl) : AE X (.Call (.Name x p) (e :: es) [] pos) (aFn ar t) := pe_imp (pe_callTy hc hg hm hv ha hn hdb he hpl) (afn_imp h)
theorem reps1 {H : Hp} {d : Dv} {vs : List V} (h : Reps K H [d] vs) : ∃ v, vs = [v] ∧ Rep K H d v := by
  obtain ⟨v, r, e, h1, h2⟩ := h.cons_inv
  rw [h2.nil_inv] at e
  exact ⟨v, e, h1⟩
theorem reps2 {H : Hp} {d d' : Dv} {vs : List V} (h : Reps K H [d, d'] vs) : ∃ v v', vs = [v, v'] ∧ Rep K H d v ∧ Rep K H d' v' := by
  obtain ⟨v, r, e, h1, h2⟩ := h.cons_inv
  obtain ⟨v', e', h3⟩ := reps1 h2
  rw [e'] at e
  exact ⟨v, v', e, h1, h3⟩
def lenA (d : Dv) (M : Ms) : Option Nat := match d with
  | .str z => some z.length
  | d => (itemsA d M).map List.length
def acLen : ARC := fun ds M Q => match ds with
  | [d] => onS (lenA d M) fun n => (match d with | .str z => z.length ≤ sizeLine | _ => True) ∧ Q (.int (n : Int)) M
  | _ => False
theorem abc_len : AbC K (fun xs H Q => ∃ x n, xs = [x] ∧ LenV K x H n ∧ Q (.int n) H) acLen := by
  intro H M vs ds Q Q' r hv q k
  match ds, q with
  | [d], q =>
    obtain ⟨n, h, hz, q⟩ := onS_ex q
    obtain ⟨v, e, rd⟩ := reps1 r
    refine ⟨v, n, e, ?_, k _ _ _ _ (Tp.refl H) rep_int hv q⟩
    cases d with
    | str z =>
      rw [rep_str_inv rd]
      cases h
      exact ⟨hz, rfl⟩
    | tup xs =>
      obtain ⟨a, ws, e1, s, z⟩ := rep_tup_inv rd
      rw [e1]
      cases h
      exact .inr ⟨ws, s, z.length⟩
    | exc _ _ => cases h
    | tuc xs =>
      obtain ⟨a, ws, e1, s, z⟩ := rep_tuc_inv rd
      rw [e1]
      cases h
      exact .inr ⟨ws, s.t, z.length⟩
    | rol xs =>
      obtain ⟨a, ws, e1, s, z⟩ := rep_rol_inv rd
      rw [e1]
      cases h
      exact .inl ⟨ws, s.l, z.length⟩
    | ref a =>
      rw [rep_ref_inv rd]
      simp only [lenA, itemsA] at h
      cases e1 : M a with
      | none => rw [e1] at h; cases h
      | some c =>
        rw [e1] at h
        cases c with
        | lst xs =>
          obtain ⟨ws, e2, z⟩ := view_lst hv e1
          cases h
          exact .inl ⟨ws, .inl (.inl e2), z.length⟩
        | dic _ => cases h
        | dit _ => cases h
        | fdc _ => cases h
        | obj _ _ => cases h
        | tab _ => cases h
        | cod _ => cases h
    | non => cases h
    | bl _ => cases h
    | int _ => cases h
    | ty _ => cases h
def acAbs : ARC := fun ds M Q => match ds with | [.int i] => Q (.int (if i < 0 then -i else i)) M | _ => False
theorem abc_abs : AbC K (fun xs H Q => ∃ i, xs = [.int i] ∧ Q (.int (if i < 0 then -i else i)) H) acAbs := by
  intro H M vs ds Q Q' r hv q k
  match ds, q with
  | [.int i], q =>
    obtain ⟨v, e, rd⟩ := reps1 r
    exact ⟨i, by rw [e, rep_int_inv rd], k _ _ _ _ (Tp.refl H) rep_int hv q⟩
def acInt : ARC := fun ds M Q => match ds with | [.int i] => Q (.int i) M | [.bl b] => Q (.int (if b then 1 else 0)) M | _ => False
theorem abc_int : AbC K (fun xs H Q => (∃ i, xs = [.int i] ∧ Q (.int i) H) ∨ ∃ k, xs = [.bl k] ∧ Q (.int (if k then 1 else 0)) H) acInt := by
  intro H M vs ds Q Q' r hv q k
  match ds, q with
  | [.int i], q =>
    obtain ⟨v, e, rd⟩ := reps1 r
    exact .inl ⟨i, by rw [e, rep_int_inv rd], k _ _ _ _ (Tp.refl H) rep_int hv q⟩
  | [.bl i], q =>
    obtain ⟨v, e, rd⟩ := reps1 r
    exact .inr ⟨i, by rw [e, rep_bl_inv rd], k _ _ _ _ (Tp.refl H) rep_int hv q⟩
def lstA (d : Dv) (M : Ms) : Option (List Dv) := match d with
  | .rol xs => some xs
  | .ref a => match M a with | some (.lst xs) => some xs | _ => none
  | _ => none
theorem lstA_ok {M : Ms} {H : Hp} {d : Dv} {v : V} {ds : List Dv} (r : Rep K H d v) (hv : View K M H) (h : lstA d M = some ds) : ∃ a vs, v = .ref a ∧ SqL K H a vs ∧ Reps K H ds vs := by
  cases d with
  | rol es =>
    cases h
    obtain ⟨a, vs, e, s, z⟩ := rep_rol_inv r
    exact ⟨a, vs, e, s.l, z⟩
  | ref a =>
    simp only [lstA] at h
    cases q : M a with
    | none => rw [q] at h; cases h
    | some c =>
      rw [q] at h
      cases c with
      | dic _ => cases h
      | dit _ => cases h
      | fdc _ => cases h
      | obj _ _ => cases h
      | tab _ => cases h
      | cod _ => cases h
      | lst es =>
        cases h
        obtain ⟨vs, h1, h2⟩ := view_lst hv q
        exact ⟨a, vs, rep_ref_inv r, .inl (.inl h1), h2⟩
  | tup _ => cases h
  | tuc _ => cases h
  | exc _ _ => cases h
  | non => cases h
  | bl _ => cases h
  | int _ => cases h
  | str _ => cases h
  | ty _ => cases h
def acAll : ARC := fun ds M Q => match ds with | [d] => ∃ ns : List Bool, lstA d M = some (ns.map Dv.bl) ∧ Q (.bl (ns.all id)) M | _ => False
def acAny : ARC := fun ds M Q => match ds with | [d] => ∃ ns : List Bool, lstA d M = some (ns.map Dv.bl) ∧ Q (.bl (ns.any id)) M | _ => False
theorem abc_all : AbC K (rAll K) acAll := by
  intro H M vs ds Q Q' r hv q k
  match ds, q with
  | [d], ⟨ns, h, q⟩ =>
    obtain ⟨v, e, rd⟩ := reps1 r
    obtain ⟨a, ws, e1, s, z⟩ := lstA_ok rd hv h
    rw [z.bools] at s
    exact ⟨a, ns, by rw [e, e1], s, k _ _ _ _ (Tp.refl H) rep_bl hv q⟩
theorem abc_any : AbC K (rAny K) acAny := by
  intro H M vs ds Q Q' r hv q k
  match ds, q with
  | [d], ⟨ns, h, q⟩ =>
    obtain ⟨v, e, rd⟩ := reps1 r
    obtain ⟨a, ws, e1, s, z⟩ := lstA_ok rd hv h
    rw [z.bools] at s
    exact ⟨a, ns, by rw [e, e1], s, k _ _ _ _ (Tp.refl H) rep_bl hv q⟩
def acMin2 : ARC := fun ds M Q => match ds with | [.int i, .int j] => Q (.int (if j < i then j else i)) M | _ => False
theorem abc_min2 : AbC K (fun xs H Q => ∃ i j, xs = [.int i, .int j] ∧ Q (.int (if j < i then j else i)) H) acMin2 := by
  intro H M vs ds Q Q' r hv q k
  match ds, q with
  | [.int i, .int j], q =>
    obtain ⟨v, w, e, r1, r2⟩ := reps2 r
    exact ⟨i, j, by rw [e, rep_int_inv r1, rep_int_inv r2], k _ _ _ _ (Tp.refl H) rep_int hv q⟩
def acTup : ARC := fun ds M Q => match ds with | [d] => onS (itemsA d M) fun xs => Q (.tup xs) M | _ => False
theorem abc_tup : AbC K (fun xs H Q => ∃ p ys, xs = [.ref p] ∧ ((SqL K H p ys ∧ ∀ l, H l = none → Q (.ref l) (upd H l (.tup ys))) ∨ (SqT K H p ys ∧ Q (.ref p) H))) acTup := by
  intro H M vs ds Q Q' r hv q k
  match ds, q with
  | [d], q =>
    obtain ⟨xs, h, q⟩ := onS_ex q
    obtain ⟨v, e, rd⟩ := reps1 r
    obtain ⟨a, ws, e1, s, z⟩ := itemsA_ok rd hv h
    subst e1
    rcases s with s | s
    · exact ⟨a, ws, e, .inr ⟨s, k _ _ _ _ (Tp.refl H) (rep_tup s z) hv q⟩⟩
    · exact ⟨a, ws, e, .inl ⟨s, end_tup z hv q k⟩⟩
end
end HC
set_option maxHeartbeats 4000000
namespace HC
open PySem L2 PyProof.Rows
section
variable {X : Cx} {a b c e o : Expr} {ta tb tc te to : RE} {pos apos cpos p : Pos} {K : PySem.W.Frag} {es : List Expr} {t : RA}
def tyN : Dv → Ms → Option String
  | .non, _ => some "NoneType"
  | .bl _, _ => some "bool"
  | .int _, _ => some "int"
  | .str _, _ => some "str"
  | .tup _, _ => some "tuple"
  | .rol _, _ => some "list"
  | .tuc _, _ => some "tuple"
  | .ref a, M => match M a with | some (.lst _) => some "list" | some (.dic _) => some "dict" | some (.dit _) => some "dict" | _ => none
  | .ty _, _ => none
  | .exc _ _, _ => none
theorem tyN_ok {M : Ms} {H : Hp} {d : Dv} {v : V} {T : String} (r : Rep K H d v) (hv : View K M H) (h : tyN d M = some T) : TyX K H v (.type T) := by
  cases d with
  | non => cases h; rw [rep_non_inv r]; exact .base .non
  | bl b => cases h; rw [rep_bl_inv r]; exact .base (.bl b)
  | int b => cases h; rw [rep_int_inv r]; exact .base (.int b)
  | str b => cases h; rw [rep_str_inv r]; exact .base (.str b)
  | ty b => cases h
  | tup ds =>
    cases h
    obtain ⟨a, vs, e, s, _⟩ := rep_tup_inv r
    rw [e]
    rcases s with (s | ⟨o, s⟩) | ⟨o, its, n, h1, h2, _⟩
    · exact .base (.tup s)
    · exact .fTuple s
    · exact .kTuple h1 h2
  | rol ds =>
    cases h
    obtain ⟨a, vs, e, s, _⟩ := rep_rol_inv r
    rw [e]
    rcases s.l with (s | ⟨o, s⟩) | ⟨o, its, n, h1, h2, _⟩
    · exact .base (.lst s)
    · exact .base (.frz s)
    · exact .kList h1 h2
  | exc _ _ => cases h
  | tuc ds =>
    cases h
    obtain ⟨a, vs, e, ⟨o, s, _⟩, _⟩ := rep_tuc_inv r
    rw [e]
    exact .fTuple s
  | ref a =>
    rw [rep_ref_inv r]
    simp only [tyN] at h
    cases q : M a with
    | none => rw [q] at h; cases h
    | some c =>
      rw [q] at h
      have rc := hv a c q
      cases c with
      | lst xs => cases h; obtain ⟨vs, e, _⟩ := rc; exact .base (.lst e)
      | dic xs => cases h; obtain ⟨vs, e, _⟩ := rc; exact .base (.dK e)
      | dit xs => cases h; obtain ⟨vs, e, _⟩ := rc; exact .base (.dT e)
      | fdc xs => cases h
      | obj C xs => cases h
      | tab xs => cases h
      | cod q => cases h
def acIsi : ARC := fun ds M Q => match ds with | [d, .ty n] => onS (tyN d M) fun T => ∃ b, kitB T n = some b ∧ Q (.bl b) M | _ => False
theorem abc_isi : AbC K (rIsi K) acIsi := by
  intro H M vs ds Q Q' r hv q k
  match ds, q with
  | [d, .ty n], q =>
    obtain ⟨T, h1, b, h2, q⟩ := onS_ex q
    obtain ⟨v, w, e, r1, r2⟩ := reps2 r
    rw [rep_ty_inv r2] at e
    exact ⟨v, .ty n, .type T, .type n, b, e, .ty n, tyN_ok r1 hv h1, kit_ty h2, k _ _ _ _ (Tp.refl H) rep_bl hv q⟩
theorem kit_ii : kitB "int" "int" = some true := by decide +kernel
theorem kit_ib : kitB "int" "bool" = some false := by decide +kernel
theorem kit_it : kitB "int" "tuple" = some false := by decide +kernel
theorem kit_is : kitB "int" "str" = some false := by decide +kernel
theorem kit_bi : kitB "bool" "int" = some true := by decide +kernel
theorem kit_bb : kitB "bool" "bool" = some true := by decide +kernel
theorem kit_bt : kitB "bool" "tuple" = some false := by decide +kernel
theorem kit_bs : kitB "bool" "str" = some false := by decide +kernel
theorem kit_ti : kitB "tuple" "int" = some false := by decide +kernel
theorem kit_tb : kitB "tuple" "bool" = some false := by decide +kernel
theorem kit_tt : kitB "tuple" "tuple" = some true := by decide +kernel
theorem kit_ts : kitB "tuple" "str" = some false := by decide +kernel
theorem kit_si : kitB "str" "int" = some false := by decide +kernel
theorem kit_sb : kitB "str" "bool" = some false := by decide +kernel
theorem kit_st : kitB "str" "tuple" = some false := by decide +kernel
theorem kit_ss : kitB "str" "str" = some true := by decide +kernel
theorem kit_ni : kitB "NoneType" "int" = some false := by decide +kernel
theorem kit_nb : kitB "NoneType" "bool" = some false := by decide +kernel
theorem kit_nt : kitB "NoneType" "tuple" = some false := by decide +kernel
theorem kit_ns : kitB "NoneType" "str" = some false := by decide +kernel
theorem kit_li : kitB "list" "int" = some false := by decide +kernel
theorem kit_lb : kitB "list" "bool" = some false := by decide +kernel
theorem kit_lt : kitB "list" "tuple" = some false := by decide +kernel
theorem kit_ls : kitB "list" "str" = some false := by decide +kernel
abbrev ARM := Dv → List Dv → Ms → DK → Prop
def AbM (K : PySem.W.Frag) (r : V → List V → Hp → VK → Prop) (ar : ARM) : Prop := ∀ H M x dx vs ds Q Q', Rep K H dx x → Reps K H ds vs → View K M H → ar dx ds M Q → LkV K H Q Q' → r x vs H Q'
def tyM (T : String) : Dv → Ms → Prop := fun d M => match d with
  | .str _ => T = "str"
  | .rol _ => T = "list"
  | .ref a => match M a with | some (.lst _) => T = "list" | some (.dic _) => T = "dict" | some (.dit _) => T = "dict" | _ => False
  | _ => False
theorem tyM_ok {M : Ms} {H : Hp} {d : Dv} {v : V} {T : String} (r : Rep K H d v) (hv : View K M H) (h : tyM T d M) : tyV K T v H := by
  cases d <;> first | exact h.elim | skip
  case str z => rw [rep_str_inv r]; exact h
  case rol z =>
    obtain ⟨a, vs, e, s, _⟩ := rep_rol_inv r
    rw [e]; exact .inl ⟨h, vs, s.l⟩
  case ref a =>
    rw [rep_ref_inv r]
    simp only [tyM] at h
    cases q : M a with
    | none => rw [q] at h; exact h.elim
    | some c =>
      rw [q] at h
      have rc := hv a c q
      cases c with
      | lst xs => obtain ⟨vs, e, _⟩ := rc; exact .inl ⟨h, vs, .inl (.inl e)⟩
      | dic xs => obtain ⟨vs, e, _⟩ := rc; exact .inr (.inr (.inl ⟨h, .inl ⟨vs, e⟩⟩))
      | dit xs => obtain ⟨vs, e, _⟩ := rc; exact .inr (.inr (.inl ⟨h, .inr ⟨vs, e⟩⟩))
      | fdc xs => exact h.elim
      | obj C xs => exact h.elim
      | tab xs => exact h.elim
      | cod q => exact h.elim
def aMth (T : String) (ar : ARM) (to : RE) (t : RA) : RE := fun ρ M Q => to ρ M fun x M1 => tyM T x M1 ∧ t ρ M1 fun ds M2 => ar x ds M2 Q
variable {T name mid : String} {nm : Str} {r : V → List V → Hp → VK → Prop} {ar : ARM}
theorem mth_imp (h : AbM K r ar) : ∀ σ H Q, cE K (aMth T ar to t) σ H Q → tBM K T r (cE K to) (cA K t) σ H Q := fun σ H Q' ⟨ρ, M, Q, hr, hv, q, k⟩ =>
  seqE hr hv q fun v H1 d M1 t1 r1 v1 ⟨ht, q1⟩ => ⟨tyM_ok r1 v1 ht, seqA (hr.mono t1) v1 q1 fun vs H2 ds M2 t2 r2 v2 q2 => h H2 M2 v d vs ds Q Q' (r1.mono t2) r2 v2 q2 (k.up (t1.trans t2))⟩
theorem ae_bm (pa : PlainAttrs T) (slot : Slot T nm mid) (hty : typeOf (.builtin mid) = pure (.type "method_descriptor")) (hm : MtR X mid r) (h : AbM X.K r ar) (ho : AE X o to) (ha : AA X (e :: es) t)
    (hbase : attributeBase o nm X.env (eval o X.env) = eval o X.env := by rfl)
    (hfew : ((backTo cpos (starEach (e :: es) X.env)).all (fun x => !x.1) && (backToKw cpos (keywordEach [] X.env)).all (fun x => x.1.isSome)
      && decide ((e :: es).length + ([] : List Keyword).length + (if ([] : List Keyword).isEmpty then 0 else 1) < 30)) = true := by rfl)
    (hline : (apos.endLine == cpos.line) = true := by rfl) (hs : starEach (e :: es) X.env = (false, eval e X.env) :: starEach es X.env := by rfl) (hplain : (backTo cpos (starEach es X.env)).any (·.1) = false := by rfl) :
    AE X (.Call (.Attribute o nm apos) (e :: es) [] cpos) (aMth T ar to t) := pe_imp (pe_bm pa slot hty hm ho ha hbase hfew hline hs hplain) (mth_imp h)
def amApp : ARM := fun x ds M Q => match x, ds with
  | .ref l, [d] => onS (lstC (M l)) fun xs => xs.length < sizeLine ∧ Q .non (mup M l (.lst (xs ++ [d])))
  | _, _ => False
theorem end_wr {H : Hp} {M : Ms} {l : Addr} {xs ys : List Dv} {vs : List V} {Q : DK} {Q' : VK} {d : Dv} {v : V} (hv : View K M H) (hl : M l = some (.lst xs)) (r : Reps K H ys vs) (rd : Rep K H d v) (q : Q d (mup M l (.lst ys))) (k : LkV K H Q Q') : Q' v (upd H l (.lst vs)) :=
  k _ _ d _ (Tp.put (hv.soft hl)) (rd.mono (Tp.put (hv.soft hl))) (hv.put (c := .lst ys) (hv.soft hl) ⟨vs, upd_same, r.mono (Tp.put (hv.soft hl))⟩) q
theorem abm_app : AbM K rAppend amApp := by
  intro H M x dx vs ds Q Q' rx rd hv q k
  match dx, ds, q with
  | .ref l, [d], q =>
    obtain ⟨xs, h1, hz, q⟩ := onS_ex q
    replace h1 := lstC_eq h1
    obtain ⟨v, e, r1⟩ := reps1 rd
    obtain ⟨ws, e2, z⟩ := view_lst hv h1
    exact ⟨l, ws, v, rep_ref_inv rx, e, e2, by rw [← z.length]; exact hz, end_wr hv h1 (z.append (Reps.cons r1 Reps.nil)) rep_non q k⟩
def amPop : ARM := fun x ds M Q => match x, ds with
  | .ref l, [.int i] => onS (lstC (M l)) fun xs => (0 ≤ i ∧ i < 4611686018427387904) ∧ onS xs[i.toNat]? fun d => Q d (mup M l (.lst (xs.eraseIdx i.toNat)))
  | _, _ => False
theorem seqIndex_nat {k n : Nat} (h : k < n) : seqIndex? (k : Int) n = some k := by
  have := (ixN_seq (n := n) (i := (k : Int)) (j := k) (by unfold ixN; rw [if_pos (by omega), if_pos (by omega), Int.toNat_natCast])).1
  exact this
theorem abm_pop : AbM K rPopAt amPop := by
  intro H M x dx vs ds Q Q' rx rd hv q k
  match dx, ds, q with
  | .ref l, [.int i], q =>
    obtain ⟨xs, h1, ⟨h0, hb⟩, q⟩ := onS_ex q
    obtain ⟨d, hd, q5⟩ := onS_ex q
    replace h1 := lstC_eq h1
    obtain ⟨kk, hk⟩ : ∃ kk, i.toNat = kk := ⟨_, rfl⟩
    rw [hk] at hd q5
    obtain ⟨v, e, r1⟩ := reps1 rd
    rw [rep_int_inv r1] at e
    obtain ⟨ws, e2, z⟩ := view_lst hv h1
    obtain ⟨w, hw, rw'⟩ := z.get hd
    have hl := (List.getElem?_eq_some_iff.mp hw).1
    have ei : i = (kk : Int) := by omega
    subst ei
    exact ⟨l, ws, kk, kk, w, rep_ref_inv rx, e, e2, by omega, by omega, seqIndex_nat hl, hw, end_wr hv h1 (z.eraseIdx kk) rw' q5 k⟩
def amExt : ARM := fun x ds M Q => match x, ds with
  | .ref l, [.ref m] => onS (lstC (M l)) fun xs => onS (lstC (M m)) fun ys => xs.length + ys.length ≤ sizeLine ∧ Q .non (mup M l (.lst (xs ++ ys)))
  | _, _ => False
theorem abm_ext : AbM K rExtend amExt := by
  intro H M x dx vs ds Q Q' rx rd hv q k
  match dx, ds, q with
  | .ref l, [.ref m], q =>
    obtain ⟨xs, h1, q⟩ := onS_ex q
    obtain ⟨ys, h2, hz, q⟩ := onS_ex q
    replace h1 := lstC_eq h1
    replace h2 := lstC_eq h2
    obtain ⟨v, e, r1⟩ := reps1 rd
    rw [rep_ref_inv r1] at e
    obtain ⟨ws, e2, z⟩ := view_lst hv h1
    obtain ⟨us, e3, z3⟩ := view_lst hv h2
    have l1 := z.length
    have l3 := z3.length
    exact ⟨l, m, ws, us, rep_ref_inv rx, e, e2, e3, by omega, end_wr hv h1 (z.append z3) rep_non q k⟩
theorem ae_append (ho : AE X o to) (ha : AA X [e] t) (hline : (apos.endLine == cpos.line) = true := by rfl) (hbase : attributeBase o "append" X.env (eval o X.env) = eval o X.env := by rfl)
    (hfew : ((backTo cpos (starEach [e] X.env)).all (fun x => !x.1) && (backToKw cpos (keywordEach [] X.env)).all (fun x => x.1.isSome)
      && decide (([e] : List Expr).length + ([] : List Keyword).length + (if ([] : List Keyword).isEmpty then 0 else 1) < 30)) = true := by rfl)
    (hs : starEach [e] X.env = (false, eval e X.env) :: starEach [] X.env := by rfl) (hplain : (backTo cpos (starEach [] X.env)).any (·.1) = false := by rfl) :
    AE X (.Call (.Attribute o "append" apos) [e] [] cpos) (aMth "list" amApp to t) := ae_bm PySem.F.plainAttrs_list PySem.F.slot_list_append PySem.F.type_list_append mt_append abm_app ho ha hbase hfew hline hs hplain
theorem ae_popAt (ho : AE X o to) (ha : AA X [e] t) (hline : (apos.endLine == cpos.line) = true := by rfl) (hbase : attributeBase o "pop" X.env (eval o X.env) = eval o X.env := by rfl)
    (hfew : ((backTo cpos (starEach [e] X.env)).all (fun x => !x.1) && (backToKw cpos (keywordEach [] X.env)).all (fun x => x.1.isSome)
      && decide (([e] : List Expr).length + ([] : List Keyword).length + (if ([] : List Keyword).isEmpty then 0 else 1) < 30)) = true := by rfl)
    (hs : starEach [e] X.env = (false, eval e X.env) :: starEach [] X.env := by rfl) (hplain : (backTo cpos (starEach [] X.env)).any (·.1) = false := by rfl) :
    AE X (.Call (.Attribute o "pop" apos) [e] [] cpos) (aMth "list" amPop to t) := ae_bm PySem.F.plainAttrs_list PySem.F.slot_list_pop PySem.F.type_list_pop mt_popAt abm_pop ho ha hbase hfew hline hs hplain
theorem ae_extend (ho : AE X o to) (ha : AA X [e] t) (hline : (apos.endLine == cpos.line) = true := by rfl) (hbase : attributeBase o "extend" X.env (eval o X.env) = eval o X.env := by rfl)
    (hfew : ((backTo cpos (starEach [e] X.env)).all (fun x => !x.1) && (backToKw cpos (keywordEach [] X.env)).all (fun x => x.1.isSome)
      && decide (([e] : List Expr).length + ([] : List Keyword).length + (if ([] : List Keyword).isEmpty then 0 else 1) < 30)) = true := by rfl)
    (hs : starEach [e] X.env = (false, eval e X.env) :: starEach [] X.env := by rfl) (hplain : (backTo cpos (starEach [] X.env)).any (·.1) = false := by rfl) :
    AE X (.Call (.Attribute o "extend" apos) [e] [] cpos) (aMth "list" amExt to t) := ae_bm PySem.F.plainAttrs_list PySem.F.slot_list_extend PySem.F.type_list_extend mt_extend abm_ext ho ha hbase hfew hline hs hplain
abbrev ASet := Dv → Dv → Dv → Ms → (Ms → Prop) → Prop
def putA {κ : Type} [DecidableEq κ] (kvs : List (κ × Dv)) (k : κ) (v : Dv) : List (κ × Dv) :=
  if (kvs.any fun kv => decide (kv.1 = k)) = true then kvs.map (fun kv => if kv.1 = k then (kv.1, v) else kv) else kvs ++ [(k, v)]
def asSet : ASet := fun x i v M Q => match x with
  | .ref a => match M a with
    | some (.lst xs) => onI i fun k => onS (ixN xs.length k) fun j => Q (mup M a (.lst (xs.set j v)))
    | some (.dic kvs) => onS (keyD i) fun k => kvs.length < sizeLine ∧ Q (mup M a (.dic (putA kvs k v)))
    | _ => False
  | _ => False
def rSetH : V → V → V → Hp → (Hp → Prop) → Prop := fun o i v H Q => rSetL o i v H Q ∨ ∃ a H', o = .ref a ∧ DPut H a i v H' ∧ Q H'
theorem set_H (hu : X.A.units + 1 < cLine) : PSet X rSetH := by
  intro pins s σ H o i v ov iv u Q I ro ri rv h
  rcases h with h | ⟨a, H', rfl, g, q⟩
  · exact set_list pins s σ H o i v ov iv u Q I ro ri rv h
  · obtain rfl : ov = Value.ref a := ro
    exact d_setItem hu I g ri rv fun s' I' => ⟨H', I', q⟩
abbrev KP (K : PySem.W.Frag) (H : Hp) (κ : Type) : List (κ × Dv) → List (κ × V) → Prop := Paired (fun (p : κ × Dv) (q : κ × V) => p.1 = q.1 ∧ Rep K H p.2 q.2)
theorem kp_any {H : Hp} {κ : Type} [DecidableEq κ] {k : κ} : ∀ {kds : List (κ × Dv)} {kvs : List (κ × V)}, KP K H κ kds kvs → (kds.any fun kv => decide (kv.1 = k)) = (kvs.any fun kv => decide (kv.1 = k))
  | _, _, .nil => rfl
  | (k1, d) :: kds, (k2, v) :: kvs, .cons ⟨e, r⟩ t => by
    have e' : k1 = k2 := e
    subst e'
    simp only [List.any_cons]
    rw [kp_any t]
theorem kp_map {H : Hp} {κ : Type} [DecidableEq κ] {k : κ} {d : Dv} {v : V} (rd : Rep K H d v) : ∀ {kds : List (κ × Dv)} {kvs : List (κ × V)}, KP K H κ kds kvs → KP K H κ (kds.map (fun kv => if kv.1 = k then (kv.1, d) else kv)) (kvs.map (fun kv => if kv.1 = k then (kv.1, v) else kv))
  | _, _, .nil => .nil
  | (k1, d1) :: kds, (k2, v1) :: kvs, .cons ⟨e, r⟩ t => by
    have e' : k1 = k2 := e
    subst e'
    rw [List.map_cons, List.map_cons]
    refine .cons ?_ (kp_map rd t)
    by_cases h : k1 = k
    · simpa [h] using rd
    · simpa [h] using r
theorem kp_app {H : Hp} {κ : Type} : ∀ {kds es : List (κ × Dv)} {kvs fs : List (κ × V)}, KP K H κ kds kvs → KP K H κ es fs → KP K H κ (kds ++ es) (kvs ++ fs)
  | _, _, _, _, .nil, h => h
  | _, _, _, _, .cons r t, h => .cons r (kp_app t h)
theorem kp_put {H : Hp} {κ : Type} [DecidableEq κ] {k : κ} {d : Dv} {v : V} (rd : Rep K H d v) {kds : List (κ × Dv)} {kvs : List (κ × V)} (h : KP K H κ kds kvs) : KP K H κ (putA kds k d) (putK kvs k v) := by
  unfold putA putK
  rw [kp_any h]
  split
  · exact kp_map rd h
  · exact kp_app h (.cons ⟨rfl, rd⟩ .nil)
theorem kp_mono {H H' : Hp} {κ : Type} {kds : List (κ × Dv)} {kvs : List (κ × V)} (h : KP K H κ kds kvs) (t : Tp K H H') : KP K H' κ kds kvs := Paired.mapP h fun _ _ z => ⟨z.1, z.2.mono t⟩
theorem kp_len {H : Hp} {κ : Type} {kds : List (κ × Dv)} {kvs : List (κ × V)} (h : KP K H κ kds kvs) : kds.length = kvs.length := Paired.length h
def agSub (to ti : RE) (s : ASet) : RG := fun d ρ M Q => to ρ M fun x M1 => ti ρ M1 fun i M2 => s x i d M2 fun M3 => Q ρ M3
theorem ag_sub {i : Expr} {ti : RE} (hu : X.A.units + 1 < cLine) (ho : AE X o to) (hi : AE X i ti)
    (ha : ∀ v, assign (.Subscript o i pos) X.env v = (do
      let ov ← holding [v] (eval o X.env)
      let iv ← holding [v, ov] (eval i X.env)
      standAt pos
      holding [v, ov, iv] (setItem ov iv v)
      release [v, ov, iv] []) := by intro _; rfl) : AG X (.Subscript o i pos) (agSub to ti asSet) :=
  pg_imp (pg_sub ho hi (set_H hu) ha) fun v σ H Q' h => by
    obtain ⟨d, ρ, M, Q, rd, hr, hv, q, k⟩ := h
    refine seqE hr hv q fun x H1 dx M1 t1 r1 v1 q1 => seqE (hr.mono t1) v1 q1 fun iv H2 di M2 t2 r2 v2 q2 => ?_
    have t12 := t1.trans t2
    have rx := r1.mono t2
    have rd2 := rd.mono t12
    cases dx <;> first | exact q2.elim | skip
    case ref a =>
      simp only [asSet] at q2
      cases e : M2 a with
      | none => rw [e] at q2; exact q2.elim
      | some c =>
        rw [e] at q2
        cases c with
        | lst xs =>
          obtain ⟨kk, e1, q4⟩ := onI_ex q2
          obtain ⟨j, hj, q5⟩ := onS_ex q4
          subst e1
          obtain ⟨vs, e2, z⟩ := view_lst v2 e
          refine .inl ⟨a, vs, kk, j, rep_ref_inv rx, rep_int_inv r2, e2, by rw [← z.length]; exact hj, ?_⟩
          exact k _ _ _ _ (t12.trans (Tp.put (v2.soft e))) (hr.mono (t12.trans (Tp.put (v2.soft e)))) (v2.put (c := .lst (xs.set j d)) (v2.soft e) ⟨vs.set j v, upd_same, (z.set j rd2).mono (Tp.put (v2.soft e))⟩) q5
        | dic kds =>
          obtain ⟨kk, e1, hz, q2⟩ := onS_ex q2
          obtain ⟨kvs, e2, z⟩ := (show ∃ kvs', H2 a = some (.dK kvs') ∧ KP X.K H2 Key kds kvs' from v2 a _ e)
          refine .inr ⟨a, upd H2 a (.dK (putK kvs kk v)), rep_ref_inv rx, .inl ⟨kvs, kk, e2, keyD_ok r2 e1, by rw [← kp_len z]; exact hz, rfl⟩, ?_⟩
          exact k _ _ _ _ (t12.trans (Tp.put (v2.soft e))) (hr.mono (t12.trans (Tp.put (v2.soft e)))) (v2.put (c := .dic (putA kds kk d)) (v2.soft e) ⟨_, upd_same, kp_mono (kp_put rd2 z) (Tp.put (v2.soft e))⟩) q2
        | dit _ => exact q2.elim
        | fdc _ => exact q2.elim
        | obj _ _ => exact q2.elim
        | tab _ => exact q2.elim
        | cod _ => exact q2.elim
end
end HC
set_option maxHeartbeats 200000
namespace HC
open PySem L2 PyProof.Rows
section
variable {X : Cx} {a b c e o tg : Expr} {ta tb tc te to : RE} {pos apos cpos p tpos : Pos} {K : PySem.W.Frag} {es : List Expr} {t : RA}
def on1 (ds : List Dv) (Q : Dv → Prop) : Prop := match ds with | [d] => Q d | _ => False
theorem on1_ex {ds : List Dv} {Q : Dv → Prop} (h : on1 ds Q) : ∃ d, ds = [d] ∧ Q d := by
  match ds, h with
  | [d], h => exact ⟨d, rfl, h⟩
def on2 (ds : List Dv) (Q : Dv → Dv → Prop) : Prop := match ds with | [d, f] => Q d f | _ => False
theorem on2_ex {ds : List Dv} {Q : Dv → Dv → Prop} (h : on2 ds Q) : ∃ d f, ds = [d, f] ∧ Q d f := by
  match ds, h with
  | [d, f], h => exact ⟨d, f, rfl, h⟩
def aiSeq (te : RE) : RI := fun ρ M Q => te ρ M fun d M1 => onS (itemsA d M1) fun ds => Q ds (fun M => itemsA d M = some ds) M1
theorem pi_seq {tl : TE} (hl : PE X e tl) : PI X tg e (fun σ H R => tl σ H fun x H1 => ∃ a, x = .ref a ∧ ((∃ xs, SqL X.K H1 a xs) ∧ R (Itl X.K a) H1 ∨ (∃ xs, SqT X.K H1 a xs) ∧ R (Itt X.K a) H1)) := by
  refine ⟨fun pins s σ H R I h => ?_⟩
  refine thn (hl.run pins s σ H _ I h) fun v s1 ⟨x, H1, I1, r1, q1⟩ => ?_
  obtain ⟨a, e, ⟨⟨xs, hq⟩, q⟩ | ⟨⟨xs, hq⟩, q⟩⟩ := q1
  · subst e
    cases r1
    obtain ⟨its, rv, p, hz⟩ := I1.list hq
    refine wpAny_pyIter_list p.isList ?_
    refine ⟨s1.heap.objs.size, [s1.heap.objs.size], _, _, H1, rfl, I1.kept (t' := s1.toks) fun b o e => Heap.get?_push_of_some _ e, turn_list a _, ⟨_, Heap.get?_push_size _ rfl, rfl, rfl⟩, fun b hb => ?_, q⟩
    have e : b = s1.heap.objs.size := by simpa using hb
    subst e
    exact I1.fpOk (Nat.le_refl _) (I1.hok.fresh (Nat.le_refl _))
  · subst e
    cases r1
    obtain ⟨its, rv, p, hz⟩ := I1.tuple hq
    refine wpAny_pyIter_tuple (show s1.heap.IsTuple a its.toArray from p) ?_
    refine ⟨s1.heap.objs.size, [s1.heap.objs.size], _, _, H1, rfl, I1.kept (t' := s1.toks) fun b o e => Heap.get?_push_of_some _ e, turn_tuple a _, ⟨_, Heap.get?_push_size _ rfl, rfl, rfl⟩, fun b hb => ?_, q⟩
    have e : b = s1.heap.objs.size := by simpa using hb
    subst e
    exact I1.fpOk (Nat.le_refl _) (I1.hok.fresh (Nat.le_refl _))
theorem items_stand {H1 : Hp} {M1 : Ms} {d : Dv} {v : V} {ds : List Dv} (r : Rep K H1 d v) (hv : View K M1 H1) (h : itemsA d M1 = some ds) :
    ∃ a vs, v = .ref a ∧ Reps K H1 ds vs ∧ ((SqT K H1 a vs ∧ ∀ H, Tp K H1 H → SqT K H a vs) ∨ (SqL K H1 a vs ∧ ∀ H M, Tp K H1 H → View K M H → itemsA d M = some ds → ∃ ws, SqL K H a ws ∧ Reps K H ds ws)) := by
  cases d <;> first | cases h; done | skip
  case tup es =>
    cases h
    obtain ⟨a, vs, e, s, z⟩ := rep_tup_inv r
    exact ⟨a, vs, e, z, .inl ⟨s, fun H t => t.t _ _ s⟩⟩
  case rol es =>
    cases h
    obtain ⟨a, vs, e, s, z⟩ := rep_rol_inv r
    exact ⟨a, vs, e, z, .inr ⟨s.l, fun H M t _ _ => ⟨vs, (t.f _ _ s).l, z.mono t⟩⟩⟩
  case tuc es =>
    cases h
    obtain ⟨a, vs, e, s, z⟩ := rep_tuc_inv r
    exact ⟨a, vs, e, z, .inl ⟨s.t, fun H t => t.t _ _ s.t⟩⟩
  case ref a =>
    simp only [itemsA] at h
    cases q : M1 a with
    | none => rw [q] at h; cases h
    | some c =>
      rw [q] at h
      cases c with
      | dic _ => cases h
      | dit _ => cases h
      | fdc _ => cases h
      | obj _ _ => cases h
      | tab _ => cases h
      | cod _ => cases h
      | lst es =>
        cases h
        obtain ⟨vs, h1, h2⟩ := view_lst hv q
        refine ⟨a, vs, rep_ref_inv r, h2, .inr ⟨.inl (.inl h1), fun H M t v' hk => ?_⟩⟩
        simp only [itemsA] at hk
        cases q' : M a with
        | none => rw [q'] at hk; cases hk
        | some c' =>
          rw [q'] at hk
          cases c' with
          | dic _ => cases hk
          | dit _ => cases hk
          | fdc _ => cases hk
          | obj _ _ => cases hk
          | tab _ => cases hk
          | cod _ => cases hk
          | lst es' =>
            cases hk
            obtain ⟨ws, h3, h4⟩ := view_lst v' q'
            exact ⟨ws, .inl (.inl h3), h4⟩
theorem iw_list {a : Addr} {ds : List Dv} {keep : Ms → Prop} {H1 : Hp} (h : ∀ H M, Tp K H1 H → View K M H → keep M → ∃ ws, SqL K H a ws ∧ Reps K H ds ws) : IW K (Itl K a) ds keep H1 where
  go := fun i H M hi t v k => by
    obtain ⟨ws, s, z⟩ := h H M t v k
    obtain ⟨w, hw, _⟩ := z.get (List.getElem?_eq_getElem hi)
    exact ⟨ws, w, s, hw⟩
  stop := fun H M t v k => by
    obtain ⟨ws, s, z⟩ := h H M t v k
    exact ⟨ws, s, by rw [← z.length]; exact Nat.le_refl _⟩
  yld := fun i H M x H' hi t v k y => by
    obtain ⟨ws, s, z⟩ := h H M t v k
    obtain ⟨w, hw, rw'⟩ := z.get (List.getElem?_eq_getElem hi)
    obtain ⟨e, y2⟩ := y
    subst e
    have := y2 ws s
    rw [hw] at this
    cases this
    exact ⟨_, List.getElem?_eq_getElem hi, Tp.refl _, rw', v, fun _ _ => rfl⟩
theorem iw_tup {a : Addr} {ds : List Dv} {vs : List V} {keep : Ms → Prop} {H1 : Hp} (z0 : Reps K H1 ds vs) (h : ∀ H, Tp K H1 H → SqT K H a vs) : IW K (Itt K a) ds keep H1 where
  go := fun i H M hi t v k => by
    obtain ⟨w, hw, _⟩ := z0.get (List.getElem?_eq_getElem hi)
    exact ⟨vs, w, h H t, hw⟩
  stop := fun H M t v k => ⟨vs, h H t, by rw [← z0.length]; exact Nat.le_refl _⟩
  yld := fun i H M x H' hi t v k y => by
    obtain ⟨w, hw, rw'⟩ := (z0.mono t).get (List.getElem?_eq_getElem hi)
    obtain ⟨e, y2⟩ := y
    subst e
    have := y2 vs (h _ t)
    rw [hw] at this
    cases this
    exact ⟨_, List.getElem?_eq_getElem hi, Tp.refl _, rw', v, fun _ _ => rfl⟩
theorem ai_seq (h : AE X e te) : AI X tg e (aiSeq te) := pi_imp (pi_seq h) fun σ H R ⟨ρ, M, Q, hr, hv, q, k⟩ => seqE hr hv q fun v H1 d M1 t1 r1 v1 q1 => by
  obtain ⟨ds, hi, q1⟩ := onS_ex q1
  obtain ⟨a, vs, e1, z, hs⟩ := items_stand r1 v1 hi
  refine ⟨a, e1, ?_⟩
  rcases hs with ⟨s, hs⟩ | ⟨s, hs⟩
  · exact .inr ⟨⟨vs, s⟩, k _ H1 ds _ M1 t1 v1 q1 (iw_tup z hs)⟩
  · exact .inl ⟨⟨vs, s⟩, k _ H1 ds _ M1 t1 v1 q1 (iw_list hs)⟩
def rangeA (lo : Int) (n : Nat) : List Dv := (List.range n).map fun (i : Nat) => Dv.int (lo + (i : Int))
theorem iw_range {lo : Int} {n : Nat} {keep : Ms → Prop} {H1 : Hp} : IW K (Itr lo n) (rangeA lo n) keep H1 where
  go := fun i H M hi t v k => by
    have h : i < n := by simpa [rangeA] using hi
    exact h
  stop := fun H M t v k => by simp [rangeA, Itr]
  yld := fun i H M x H' hi t v k y => by
    obtain ⟨e, y2⟩ := y
    subst e y2
    refine ⟨.int (lo + (i : Int)), ?_, Tp.refl _, rep_int, v, fun _ _ => rfl⟩
    have : i < n := by simpa [rangeA] using hi
    simp [rangeA, this]
def aiR1 (t : RA) : RI := fun ρ M Q => t ρ M fun ds M1 => on1 ds fun d => onI d fun j => (-(2 ^ 62) ≤ j ∧ j < 2 ^ 62) ∧ Q (rangeA 0 j.toNat) (fun _ => True) M1
theorem ai_range1 (hm : X.mg "range" = none) (ha : AA X [a] t) (hg : Gl X "range" := by rfl) (hs : starEach [a] X.env = [(false, eval a X.env)] := by rfl) : AI X tg (.Call (.Name "range" p) [a] [] pos) (aiR1 t) :=
  pi_imp (pi_range1 hg hm ha hs) fun σ H R ⟨ρ, M, Q, hr, hv, q, k⟩ => seqA hr hv q fun vs H1 ds M1 t1 r1 v1 q1 => by
    obtain ⟨d, e0, q4⟩ := on1_ex q1
    obtain ⟨j, e3, h1, q5⟩ := onI_ex q4
    subst e0 e3
    obtain ⟨v, e, rd⟩ := reps1 r1
    exact ⟨j, by rw [e, rep_int_inv rd], h1.1, h1.2, k _ H1 _ _ M1 t1 v1 q5 iw_range⟩
def pairD (x y : Dv) : Dv := .tup [x, y]
theorem rep_pair {H : Hp} {T : Addr} {x y : V} {d f : Dv} (hn : H T = none) (r1 : Rep K H d x) (r2 : Rep K H f y) : Rep K (upd H T (.tup [x, y])) (pairD d f) (.ref T) :=
  rep_tup (.inl (.inl upd_same)) (Reps.cons (r1.mono (Tp.new hn)) (Reps.cons (r2.mono (Tp.new hn)) Reps.nil))
def enumD (ds : List Dv) : List Dv := (List.range ds.length).zipWith (fun (i : Nat) d => pairD (.int (i : Int)) d) ds
theorem enumD_len (ds : List Dv) : (enumD ds).length = ds.length := by simp [enumD]
theorem enumD_get {ds : List Dv} {i : Nat} {d : Dv} (h : ds[i]? = some d) : (enumD ds)[i]? = some (pairD (.int (i : Int)) d) := by
  have hl := (List.getElem?_eq_some_iff.mp h).1
  have he : ds[i] = d := (List.getElem?_eq_some_iff.mp h).2
  simp [enumD, List.getElem?_zipWith, h, hl, he]
theorem iw_enum {a : Addr} {ds : List Dv} {keep : Ms → Prop} {H1 : Hp} (h : ∀ H M, Tp K H1 H → View K M H → keep M → ∃ ws, SqL K H a ws ∧ Reps K H ds ws) : IW K (Ite K a) (enumD ds) keep H1 where
  go := fun i H M hi t v k => by
    rw [enumD_len] at hi
    obtain ⟨ws, s, z⟩ := h H M t v k
    obtain ⟨w, hw, _⟩ := z.get (List.getElem?_eq_getElem hi)
    exact ⟨ws, w, s, hw⟩
  stop := fun H M t v k => by
    obtain ⟨ws, s, z⟩ := h H M t v k
    exact ⟨ws, s, by rw [enumD_len, ← z.length]; exact Nat.le_refl _⟩
  yld := fun i H M x H' hi t v k y => by
    rw [enumD_len] at hi
    obtain ⟨ws, s, z⟩ := h H M t v k
    obtain ⟨w, hw, rw'⟩ := z.get (List.getElem?_eq_getElem hi)
    obtain ⟨T, x', e, hn, e2, y2⟩ := y
    subst e e2
    have := y2 ws s
    rw [hw] at this
    cases this
    exact ⟨_, enumD_get (List.getElem?_eq_getElem hi), Tp.new hn, rep_pair hn rep_int rw', v.new hn, fun a ha => upd_ne fun q => ha (q ▸ hn)⟩
def zipD (xs ys : List Dv) : List Dv := xs.zipWith pairD ys
theorem zipD_get {xs ys : List Dv} {i : Nat} {x y : Dv} (h : xs[i]? = some x) (h' : ys[i]? = some y) : (zipD xs ys)[i]? = some (pairD x y) := by simp [zipD, List.getElem?_zipWith, h, h']
theorem zipD_len (xs ys : List Dv) : (zipD xs ys).length = min xs.length ys.length := by simp [zipD]
end
end HC
set_option maxHeartbeats 1000000
namespace HC
open PySem PySem.Spec L2 PyProof.Rows
theorem meets_enum_newB {v : Value} {o : Obj} {H : Heap → Prop} (B : Begins v o H) :
    Meets (Builtin.«enumerate.__new__» ⟨[.type "enumerate", v], []⟩) (fun _ R s => H s.heap ∧
      R (.ok (.ret (.ref (s.heap.push o).objs.size))) { s with heap := (s.heap.push o).push { cls := .type "enumerate", data := .fields #[.none, .bool false, .ref s.heap.objs.size, rawInt 0, .none, .none] } }) :=
  .of_wp fun prog w A R s h => by
    obtain ⟨hp, g, d, tk, os⟩ := s; obtain ⟨h1, h⟩ := h
    have hsub := sub_enumerate
    have q1 : ∀ {A' : Around} {E : Value → Shared → Prop} {Q : Value → Shared → Prop}, Q (.ref hp.objs.size) ⟨hp.push o, g, d, tk, os⟩ → wpAny (model prog w) A' (pyIter v) Q E ⟨hp, g, d, tk, os⟩ :=
      fun q => B.iter prog w _ _ ⟨hp, g, d, tk, os⟩ _ h1 q
    wp_walk using q1
    refine wpAny_stack_any fun st => wpAny_pure ?_
    split
    · rename_i c _ _ _ _ _
      cases (c == Value.type "enumerate")
      · wp_walk using q1
        exact ⟨_, rfl, h⟩
      · wp_walk using q1
        exact ⟨_, rfl, h⟩
    · wp_walk using q1
      exact ⟨_, rfl, h⟩
section
variable {prog : Program} {w : World} {A : Around} {E : Value → Shared → Prop} {s : Shared}
theorem call_enum_B {v : Value} {o : Obj} {H : Heap → Prop} {Q : Value → Shared → Prop} (B : Begins v o H) (h1 : H s.heap)
    (h : ∀ h', IsEnum h' (s.heap.objs.size + 1) s.heap.objs.size 0 .none → h'.get? s.heap.objs.size = some o → h'.objs.size = s.heap.objs.size + 2 →
      (∀ b o, s.heap.get? b = some o → h'.get? b = some o) → Q (.ref (s.heap.objs.size + 1)) { s with heap := h' }) :
    wpAny (model prog w) A (call (.type "enumerate") [v]) Q E s := by
  refine callType_new F.called_enumerate (by decide) (F.typeCall_enumerate_1 _) (F.newCall_enumerate_1 _) (fun obj => F.args_object_init_2 obj _) F.entry_enumerate_new
    (meets_enum_newB B) ⟨h1, ?_⟩
  have hz : (s.heap.push o).objs.size = s.heap.objs.size + 1 := Heap.size_push ..
  show _ ∧ _
  rw [hz]
  have he : IsEnum ((s.heap.push o).push { cls := .type "enumerate", data := .fields #[.none, .bool false, .ref s.heap.objs.size, rawInt 0, .none, .none] }) (s.heap.objs.size + 1) s.heap.objs.size 0 .none := by
    have := Heap.get?_push_size (s.heap.push o) (o := { cls := .type "enumerate", data := .fields #[.none, .bool false, .ref s.heap.objs.size, rawInt 0, .none, .none] }) rfl
    rw [hz] at this; exact this
  refine ⟨⟨_, he, rfl⟩, h _ he (Heap.get?_push_of_some _ (Heap.get?_push_size _ B.free)) (by rw [Heap.size_push, hz]) fun b o x => Heap.get?_push_of_some _ (Heap.get?_push_of_some _ x)⟩
end
def IteT (K : PySem.W.Frag) (a : Addr) : It :=
  ⟨fun i H => ∃ (xs : List V) (x : V), SqT K H a xs ∧ xs[i]? = some x, fun i H v H' => ∃ T x, v = .ref T ∧ H T = none ∧ H' = upd H T (.tup [.int (i : Nat), x]) ∧ ∀ xs, SqT K H a xs → xs[i]? = some x, fun i H => ∃ xs : List V, SqT K H a xs ∧ xs.length = i⟩
theorem turn_enumT {P : Program} {w : World} {K : PySem.W.Frag} {elts : List Expr} {kk : Nat} {tpos : Pos} (a e it : Addr) :
    Turn P w K (.Tuple elts kk tpos) (IteT K a) [e, it] e (fun i h => (∃ old, IsEnum h e it ((i : Nat) : Int) old) ∧ h.IsTupleIter it a i ∧ e ≠ it) where
  mem := by simp
  obj := fun i h st b hb => by
    obtain ⟨⟨old, he⟩, ⟨o, ho, hc, hd⟩, _⟩ := st
    have e' : b = e ∨ b = it := by simpa using hb
    rcases e' with z | z
    · rw [z]; exact ⟨_, he, fun v q => nomatch q⟩
    · rw [z]; exact ⟨o, ho, fun v q => by rw [hd] at q; cases q⟩
  keep := fun i h h' st k => let ⟨⟨old, he⟩, hi, hne⟩ := st; ⟨⟨old, k e (by simp) _ he⟩, hi.at fun o q => k it (by simp) o q, hne⟩
  item := by
    intro X hP hw hK hc i pins s σ H E I hf st hg
    subst hP hw hK
    obtain ⟨⟨old, he⟩, hit, hne⟩ := st
    obtain ⟨xs, x, hq, hx⟩ := hg
    obtain ⟨its, rv, p, hz⟩ := I.tuple hq
    obtain ⟨u, hu, ru⟩ := rv.get hx
    have hel : e < s.heap.objs.size := Heap.lt_size he
    have hil : it < s.heap.objs.size := by obtain ⟨_, q, _⟩ := hit; exact Heap.lt_size q
    have nae : e ≠ a := by
      intro q
      obtain ⟨o, ho, hcl, _⟩ := p
      rw [← q] at ho
      have := he.symm.trans ho
      cases this
      injection hcl with hc'
      exact absurd hc' (by decide)
    have nai : a ≠ it := by
      intro q
      obtain ⟨o, ho, hcl, _⟩ := p
      obtain ⟨o2, ho2, hc2, _⟩ := hit
      rw [q, ho2] at ho
      cases ho
      rw [hc2] at hcl
      injection hcl with hc'
      exact absurd hc' (by decide)
    have hil2 : i < its.toArray.size := by
      have := (List.getElem?_eq_some_iff.mp hu).1
      simpa using this
    refine wpAny_pyNext_enum_itemC (Draws.tuple (A := X.A.in1) (show X.A.in1.handled = none from I.ok.hd hc) it a nai its.toArray) he ⟨hit, p⟩ hil2 hne (by simp [hne, nae]) fun x' h' tk hx' ho hst' hT hsz hk => ?_
    obtain ⟨hit', _⟩ := hst'
    have ex : x' = u := by
      have h1 : its.toArray[i]? = some u := by simpa using hu
      rw [h1] at hx'
      exact (Option.some.inj hx').symm
    subst ex
    refine ⟨_, rfl, wpAny_letOwnedTupleGo_enum (s := { s with heap := h', toks := tk + 1 }) ho fun h'' he' sb => ?_⟩
    have hT2 : h''.get? s.heap.objs.size = some { cls := .type "tuple", data := .seq #[.int i tk, x'] } := (sb.2 _ (Nat.ne_of_gt hel)).trans hT
    have new : ObjOk X.prog X.w (upd H s.heap.objs.size (.tup [.int (i : Nat), x])) h'' s.heap.objs.size (.tup [.int (i : Nat), x]) :=
      ⟨by show 2 ≤ sizeLine; decide, [.int i tk, x'], .cons ⟨_, rfl⟩ (.cons ru .nil), ⟨_, hT2, rfl, _, rfl⟩⟩
    have I1 : Inv X pins σ (upd H s.heap.objs.size (.tup [.int (i : Nat), x])) { s with heap := h'', toks := tk + 1 } :=
      I.turnedNew (ch := [e, it]) (fun b ob hb q => (sb.2 b (fun z => hb (by simp [z]))).trans (hk b ob (fun z => hb (by simp [z])) (fun z => hb (by simp [z])) q)) hf (Nat.le_refl _) new
    refine ⟨.ref s.heap.objs.size, _, I1, rfl, ⟨_, x, rfl, I.hok.fresh (Nat.le_refl _), rfl, fun ys hy => by rw [I.tuple_inj hy hq]; exact hx⟩, ⟨⟨x', ?_⟩, hit'.at fun o q => (sb.2 it (Ne.symm hne)).trans q, hne⟩, fun b hb => ?_⟩
    · have e1 : ((i + 1 : Nat) : Int) = (i : Int) + 1 := by omega
      rw [e1]; exact he'
    · have hb' : b < s.heap.objs.size := by
        have e' : b = e ∨ b = it := by simpa using hb
        rcases e' with z | z
        · rw [z]; exact hel
        · rw [z]; exact hil
      rw [upd_ne (Nat.ne_of_lt hb')]
      exact (hf b hb).1
  done := by
    intro X hP hw hK hc i pins s σ H E I hf st hg
    subst hP hw hK
    obtain ⟨⟨old, he⟩, hit, hne⟩ := st
    obtain ⟨xs, hq, hx⟩ := hg
    obtain ⟨its, rv, p, hz⟩ := I.tuple hq
    obtain ⟨f0, f1, f2, f3, f4, f5⟩ := hf it (by simp)
    have hl := rv.length
    have nai : a ≠ it := by
      intro q
      obtain ⟨o, ho, hcl, _⟩ := p
      obtain ⟨o2, ho2, hc2, _⟩ := hit
      rw [q, ho2] at ho
      cases ho
      rw [hc2] at hcl
      injection hcl with hc'
      exact absurd hc' (by decide)
    have hst : (fun i (h : Heap) => h.IsTupleIter it a i ∧ h.IsTuple a its.toArray) its.toArray.size s.heap := ⟨by
      have e2 : its.toArray.size = i := by simp; omega
      rw [e2]; exact hit, p⟩
    refine wpAny_pyNext_enum_endD (Draws.tuple (prog := X.prog) (w := X.w) (A := X.A.in1) (show X.A.in1.handled = none from I.ok.hd hc) it a nai its.toArray) he hst fun h' eb => ⟨rfl, I.turned (t' := s.toks) (fun b o hb q => eb b o hb q) f0 f1 f3 f4 f5⟩
  self := fun A i s Q E st h => let ⟨⟨_, he⟩, _⟩ := st; wpAny_pyIter_enum he h
def iEnumA (K : PySem.W.Frag) (ta : TA) : TI := fun σ H R => ta σ H fun vs H1 => ∃ a xs, vs = [.ref a] ∧ ((SqL K H1 a xs ∧ R (Ite K a) H1) ∨ (SqT K H1 a xs ∧ R (IteT K a) H1))
theorem pi_enumA {X : Cx} {e : Expr} {ta : TA} {p pos tpos : Pos} {elts : List Expr} {kk : Nat} (hg : Gl X "enumerate") (hm : X.mg "enumerate" = none) (ha : PA X [e] ta) (hs : starEach [e] X.env = [(false, eval e X.env)] := by rfl) :
    PI X (.Tuple elts kk tpos) (.Call (.Name "enumerate" p) [e] [] pos) (iEnumA X.K ta) := by
  refine ⟨fun pins s σ H R I h => ?_⟩
  refine Call_ (ld_blt I hg hm boot_enumerate (PyProof.Rows.callWith_type1 (thn (ha.run pos pins s σ H _ I h) fun us s1 ⟨vs, H1, I1, r1, q1⟩ => ?_) hs rfl))
  obtain ⟨a, xs, ex, q1⟩ := q1
  subst ex
  cases r1 with
  | cons r rr =>
    cases rr
    cases r
    rcases q1 with ⟨hq, q⟩ | ⟨hq, q⟩
    · obtain ⟨its, rv, p', hz⟩ := I1.list hq
      refine call_enumerate_list p'.isList fun h' he hit hsz hk => wpAny_pyIter_enum he ?_
      have I2 : Inv X pins σ H1 { s1 with heap := h' } := I1.kept (t' := s1.toks) hk
      refine ⟨s1.heap.objs.size + 1, [s1.heap.objs.size + 1, s1.heap.objs.size], _, _, H1, rfl, I2, turn_enum a (s1.heap.objs.size + 1) s1.heap.objs.size, ⟨⟨.none, he⟩, hit, Nat.succ_ne_self _⟩, fun b hb => ?_, q⟩
      have e' : b = s1.heap.objs.size + 1 ∨ b = s1.heap.objs.size := by simpa using hb
      have hle : s1.heap.objs.size ≤ b := by
        rcases e' with z | z
        · rw [z]; exact Nat.le_add_right _ _
        · rw [z]; exact Nat.le_refl _
      exact I1.fpOk hle (I1.hok.fresh hle)
    · obtain ⟨its, rv, p', hz⟩ := I1.tuple hq
      refine call_enum_B (begins_tuple a its.toArray) (show s1.heap.IsTuple a its.toArray from p') fun h' he hit hsz hk => wpAny_pyIter_enum he ?_
      have I2 : Inv X pins σ H1 { s1 with heap := h' } := I1.kept (t' := s1.toks) hk
      refine ⟨s1.heap.objs.size + 1, [s1.heap.objs.size + 1, s1.heap.objs.size], _, _, H1, rfl, I2, turn_enumT a (s1.heap.objs.size + 1) s1.heap.objs.size, ⟨⟨.none, he⟩, ⟨_, hit, rfl, rfl⟩, Nat.succ_ne_self _⟩, fun b hb => ?_, q⟩
      have e' : b = s1.heap.objs.size + 1 ∨ b = s1.heap.objs.size := by simpa using hb
      have hle : s1.heap.objs.size ≤ b := by
        rcases e' with z | z
        · rw [z]; exact Nat.le_add_right _ _
        · rw [z]; exact Nat.le_refl _
      exact I1.fpOk hle (I1.hok.fresh hle)
section
variable {X : Cx} {e : Expr} {t : RA} {K : PySem.W.Frag} {p pos tpos : Pos}
theorem iw_enumT {a : Addr} {ds : List Dv} {vs : List V} {keep : Ms → Prop} {H1 : Hp} (z0 : Reps K H1 ds vs) (h : ∀ H, Tp K H1 H → SqT K H a vs) : IW K (IteT K a) (enumD ds) keep H1 where
  go := fun i H M hi t v k => by
    rw [enumD_len] at hi
    obtain ⟨w, hw, _⟩ := z0.get (List.getElem?_eq_getElem hi)
    exact ⟨vs, w, h H t, hw⟩
  stop := fun H M t v k => ⟨vs, h H t, by rw [enumD_len, ← z0.length]⟩
  yld := fun i H M x H' hi t v k y => by
    rw [enumD_len] at hi
    obtain ⟨w, hw, rw'⟩ := (z0.mono t).get (List.getElem?_eq_getElem hi)
    obtain ⟨T, x', e, hn, e2, y2⟩ := y
    subst e e2
    have := y2 vs (h _ t)
    rw [hw] at this
    cases this
    exact ⟨_, enumD_get (List.getElem?_eq_getElem hi), Tp.new hn, rep_pair hn rep_int rw', v.new hn, fun a ha => upd_ne fun q => ha (q ▸ hn)⟩
def aiEnum (t : RA) : RI := fun ρ M Q => t ρ M fun ds M1 => on1 ds fun d => onS (itemsA d M1) fun xs => Q (enumD xs) (fun M => itemsA d M = some xs) M1
theorem ai_enum {elts : List Expr} {kk : Nat} (hm : X.mg "enumerate" = none) (ha : AA X [e] t) (hg : Gl X "enumerate" := by rfl) (hs : starEach [e] X.env = [(false, eval e X.env)] := by rfl) : AI X (.Tuple elts kk tpos) (.Call (.Name "enumerate" p) [e] [] pos) (aiEnum t) :=
  pi_imp (pi_enumA hg hm ha hs) fun σ H R ⟨ρ, M, Q, hr, hv, q, k⟩ => seqA hr hv q fun vs H1 ds M1 t1 r1 v1 q1 => by
    obtain ⟨d, e0, q4⟩ := on1_ex q1
    obtain ⟨xs, h1, q5⟩ := onS_ex q4
    subst e0
    obtain ⟨v, e, rd⟩ := reps1 r1
    obtain ⟨a, ws, e1, z, hs⟩ := items_stand rd v1 h1
    rcases hs with ⟨s, hs⟩ | ⟨s, hs⟩
    · exact ⟨a, ws, by rw [e, e1], .inr ⟨s, k _ H1 _ _ M1 t1 v1 q5 (iw_enumT z hs)⟩⟩
    · exact ⟨a, ws, by rw [e, e1], .inl ⟨s, k _ H1 _ _ M1 t1 v1 q5 (iw_enum hs)⟩⟩
end
end HC
set_option maxHeartbeats 1000000
namespace HC
open PySem PySem.Spec L2 PyProof.Rows
def RowIt (k : Bool) (h : Heap) (it a : Addr) (i : Nat) : Prop := match k with | true => h.IsTupleIter it a i | false => h.IsListIter it a i
def RowAt (k : Bool) (h : Heap) (a : Addr) (items : Array Value) : Prop := match k with | true => h.IsTuple a items | false => h.IsList a items
def RowV (k : Bool) (K : PySem.W.Frag) (H : Hp) (a : Addr) (xs : List V) : Prop := match k with | true => SqT K H a xs | false => SqL K H a xs
def RowO (k : Bool) (a : Addr) : Obj := match k with
  | true => { cls := .type "tuple_iterator", data := .fields #[.ref a, .int 0 0] }
  | false => { cls := .type "list_iterator", data := .fields #[.ref a, .int 0 0] }
theorem row_draws {prog : Program} {w : World} {A : Around} (hh : A.handled = none) (k : Bool) (it a : Addr) (hne : a ≠ it) (items : Array Value) :
    Draws prog w A it [it, a] items.size (fun i v => items[i]? = some v) (fun i h => RowIt k h it a i ∧ RowAt k h a items) := by
  cases k
  · exact Draws.list hh it a hne items
  · exact Draws.tuple hh it a hne items
theorem row_begins (k : Bool) (a : Addr) (items : Array Value) : Begins (.ref a) (RowO k a) fun h => RowAt k h a items := by
  cases k
  · exact begins_list a items
  · exact begins_tuple a items
theorem RowIt.keep {k : Bool} {h h' : Heap} {it a : Addr} {i : Nat} (r : RowIt k h it a i) (q : ∀ o, h.get? it = some o → h'.get? it = some o) : RowIt k h' it a i := by
  cases k
  · exact Heap.IsListIter.at (h := h) r q
  · exact Heap.IsTupleIter.at (h := h) r q
theorem RowIt.first {k : Bool} {h : Heap} {it a : Addr} (q : h.get? it = some (RowO k a)) : RowIt k h it a 0 := by
  cases k
  · exact ⟨_, q, rfl, rfl⟩
  · exact ⟨_, q, rfl, rfl⟩
theorem RowIt.ob {k : Bool} {h : Heap} {it a : Addr} {i : Nat} (r : RowIt k h it a i) : ∃ o ar, h.get? it = some o ∧ o.data = .fields ar := by
  cases k
  · obtain ⟨o, e, _, d⟩ := r; exact ⟨o, _, e, d⟩
  · obtain ⟨o, e, _, d⟩ := r; exact ⟨o, _, e, d⟩
theorem row_inv {X : Cx} {pins : List (Addr × Obj)} {σ : L2.St} {H : Hp} {s : Shared} {a : Addr} {xs : List V} {k : Bool} (I : Inv X pins σ H s) (h : RowV k X.K H a xs) : ∃ its : List Value, Vals xs its ∧ RowAt k s.heap a its.toArray := by
  cases k
  · obtain ⟨its, r, p, _⟩ := I.list h
    exact ⟨its, r, p.isList⟩
  · obtain ⟨its, r, p, _⟩ := I.tuple h
    exact ⟨its, r, p⟩
theorem row_inj {X : Cx} {pins : List (Addr × Obj)} {σ : L2.St} {H : Hp} {s : Shared} {a : Addr} {xs ys : List V} {k : Bool} (I : Inv X pins σ H s) (h : RowV k X.K H a xs) (h' : RowV k X.K H a ys) : xs = ys := by
  cases k
  · exact I.list_inj h h'
  · exact I.tuple_inj h h'
theorem RowAt.lt {k : Bool} {h : Heap} {a : Addr} {items : Array Value} (r : RowAt k h a items) : a < h.objs.size := by
  cases k
  · obtain ⟨o, e, _⟩ := r; exact Heap.lt_size e
  · obtain ⟨o, e, _⟩ := r; exact Heap.lt_size e
abbrev zH2 (h : Heap) (o1 o2 : Obj) : Heap := (h.push o1).push o2
abbrev zH3 (h : Heap) (o1 o2 : Obj) : Heap := (zH2 h o1 o2).push { cls := .type "tuple", data := .seq #[.ref h.objs.size, .ref (h.push o1).objs.size] }
abbrev zH4 (h : Heap) (o1 o2 : Obj) : Heap := (zH3 h o1 o2).push { cls := .type "tuple", data := .seq #[.none, .none] }
abbrev zH5 (h : Heap) (o1 o2 : Obj) : Heap := (zH4 h o1 o2).push { cls := .type "zip", data := .fields #[.none, .bool false, .bool false, .ref (zH2 h o1 o2).objs.size, .ref (zH3 h o1 o2).objs.size] }
theorem meets_zip_newB {v1 v2 : Value} {o1 o2 : Obj} {P1 P2 : Heap → Prop} (B1 : Begins v1 o1 P1) (B2 : Begins v2 o2 P2) :
    Meets (Builtin.«zip.__new__» ⟨[.type "zip", v1, v2], []⟩) (fun _ R s => P1 s.heap ∧ P2 s.heap ∧
      R (.ok (.ret (.ref (zH4 s.heap o1 o2).objs.size))) { s with heap := zH5 s.heap o1 o2 }) :=
  .of_wp fun prog w A R s hyp => by
    obtain ⟨hp, g, d, tk, os⟩ := s
    obtain ⟨f1, f2, hyp⟩ := hyp
    have hsub := sub_zip
    have g1 : ∀ {A' : Around} {E : Value → Shared → Prop} {Q : Value → Shared → Prop}, Q (.ref hp.objs.size) ⟨hp.push o1, g, d, tk, os⟩ → wpAny (model prog w) A' (pyIter v1) Q E ⟨hp, g, d, tk, os⟩ :=
      fun q => B1.iter prog w _ _ ⟨hp, g, d, tk, os⟩ _ f1 q
    have g2 : ∀ {A' : Around} {E : Value → Shared → Prop} {Q : Value → Shared → Prop}, Q (.ref (hp.push o1).objs.size) ⟨(hp.push o1).push o2, g, d, tk, os⟩ → wpAny (model prog w) A' (pyIter v2) Q E ⟨hp.push o1, g, d, tk, os⟩ :=
      fun q => B2.iter prog w _ _ ⟨hp.push o1, g, d, tk, os⟩ _ (B2.keeps _ _ f2 fun b o e => Heap.get?_push_of_some _ e) q
    wp_walk using g1, g2
    exact ⟨_, rfl, hyp⟩
section
variable {prog : Program} {w : World} {A : Around} {E : Value → Shared → Prop} {s : Shared}
theorem call_zip_B {v1 v2 : Value} {o1 o2 : Obj} {P1 P2 : Heap → Prop} {Q : Value → Shared → Prop} (B1 : Begins v1 o1 P1) (B2 : Begins v2 o2 P2) (f1 : P1 s.heap) (f2 : P2 s.heap)
    (go : ∀ h', IsZip h' (s.heap.objs.size + 4) (s.heap.objs.size + 2) (s.heap.objs.size + 3) .none → IsPair h' (s.heap.objs.size + 2) (.ref s.heap.objs.size) (.ref (s.heap.objs.size + 1)) →
      IsPair h' (s.heap.objs.size + 3) .none .none → h'.get? s.heap.objs.size = some o1 → h'.get? (s.heap.objs.size + 1) = some o2 →
      (∀ c o, s.heap.get? c = some o → h'.get? c = some o) → Q (.ref (s.heap.objs.size + 4)) { s with heap := h' }) :
    wpAny (model prog w) A (call (.type "zip") [v1, v2]) Q E s := by
  refine callType_new F.called_zip (by decide) (F.typeCall_zip_2 _ _) (F.newCall_zip_2 _ _) (fun obj => F.args_object_init_3 obj _ _) F.entry_zip_new
    (meets_zip_newB B1 B2) ⟨f1, f2, ?_⟩
  have up : ∀ {h : Heap} {o' : Obj} {c : Addr} {o : Obj}, h.get? c = some o → (h.push o').get? c = some o := fun e => Heap.get?_push_of_some _ e
  have e1 : (s.heap.push o1).objs.size = s.heap.objs.size + 1 := Heap.size_push ..
  have e2 : (zH2 s.heap o1 o2).objs.size = s.heap.objs.size + 2 := (Heap.size_push ..).trans (by rw [e1])
  have e3 : (zH3 s.heap o1 o2).objs.size = s.heap.objs.size + 3 := (Heap.size_push ..).trans (by rw [e2])
  have e4 : (zH4 s.heap o1 o2).objs.size = s.heap.objs.size + 4 := (Heap.size_push ..).trans (by rw [e3])
  have a1 : (zH5 s.heap o1 o2).get? s.heap.objs.size = some o1 := up (up (up (up (Heap.get?_push_size _ B1.free))))
  have a2 : (zH5 s.heap o1 o2).get? (s.heap.push o1).objs.size = some o2 := up (up (up (Heap.get?_push_size _ B2.free)))
  have a3 : (zH5 s.heap o1 o2).get? (zH2 s.heap o1 o2).objs.size = some _ := up (up (Heap.get?_push_size _ rfl))
  have a4 : (zH5 s.heap o1 o2).get? (zH3 s.heap o1 o2).objs.size = some _ := up (Heap.get?_push_size _ rfl)
  have a5 : (zH5 s.heap o1 o2).get? (zH4 s.heap o1 o2).objs.size = some _ := Heap.get?_push_size _ rfl
  show _ ∧ _
  refine ⟨⟨_, a5, rfl⟩, ?_⟩
  rw [e1] at a2 a3
  rw [e2] at a3 a5
  rw [e3] at a4 a5
  rw [e4] at a5 ⊢
  exact go _ a5 a3 a4 a1 a2 fun c o e => up (up (up (up (up e))))
end
def ItzM (k m : Bool) (K : PySem.W.Frag) (a b : Addr) : It :=
  ⟨fun i H => ∃ (xs ys : List V) (x y : V), RowV k K H a xs ∧ RowV m K H b ys ∧ xs[i]? = some x ∧ ys[i]? = some y,
    fun i H v H' => ∃ T x y, v = .ref T ∧ H T = none ∧ H' = upd H T (.tup [x, y]) ∧ (∀ xs, RowV k K H a xs → xs[i]? = some x) ∧ ∀ ys, RowV m K H b ys → ys[i]? = some y,
    fun i H => ∃ xs ys : List V, RowV k K H a xs ∧ RowV m K H b ys ∧ i = min xs.length ys.length⟩
theorem turn_zipM {P : Program} {w : World} {K : PySem.W.Frag} {elts : List Expr} {kk : Nat} {tpos : Pos} {k m : Bool} {a b z TI TO i1 i2 : Addr} (S : ZipSep2 z TI TO i1 i2 [i1, a] [i2, b]) (na : a ≠ i1) (nb : b ≠ i2) :
    Turn P w K (.Tuple elts kk tpos) (ItzM k m K a b) [z, TI, TO, i1, i2] z (fun i h => IsZip h z TI TO .none ∧ IsPair h TI (.ref i1) (.ref i2) ∧ (∃ x y, IsPair h TO x y) ∧ RowIt k h i1 a i ∧ RowIt m h i2 b i) where
  mem := List.mem_cons_self ..
  obj := fun i h st c hc => by
    obtain ⟨r1, r2, ⟨x, y, r3⟩, t1, t2⟩ := st
    obtain ⟨o1, _, q1, d1⟩ := t1.ob
    obtain ⟨o2, _, q2, d2⟩ := t2.ob
    simp only [List.mem_cons, List.not_mem_nil, or_false] at hc
    rcases hc with rfl | rfl | rfl | rfl | rfl
    · exact ⟨_, r1, fun v e => nomatch e⟩
    · exact ⟨_, r2, fun v e => nomatch e⟩
    · exact ⟨_, r3, fun v e => nomatch e⟩
    · exact ⟨o1, q1, fun v e => by rw [d1] at e; cases e⟩
    · exact ⟨o2, q2, fun v e => by rw [d2] at e; cases e⟩
  keep := fun i h h' st kp => by
    obtain ⟨r1, r2, ⟨x, y, r3⟩, t1, t2⟩ := st
    exact ⟨kp z (by simp) _ r1, kp TI (by simp) _ r2, ⟨x, y, kp TO (by simp) _ r3⟩, t1.keep fun o e => kp i1 (by simp) o e, t2.keep fun o e => kp i2 (by simp) o e⟩
  item := by
    intro X hP hw hK hc i pins s σ H E I hf st hg
    subst hP hw hK
    obtain ⟨r1, r2, ⟨x0, y0, r3⟩, t1, t2⟩ := st
    obtain ⟨xs, ys, x, y, qa, qb, hx, hy⟩ := hg
    obtain ⟨us, va, pa⟩ := row_inv I qa
    obtain ⟨ws, vb, pb⟩ := row_inv I qb
    obtain ⟨u, hu, ru⟩ := va.get hx
    obtain ⟨v, hv, rv⟩ := vb.get hy
    have hh : X.A.in1.handled = none := I.ok.hd hc
    have lu : i < us.toArray.size := by
      have := (List.getElem?_eq_some_iff.mp hu).1
      simpa using this
    have lv : i < ws.toArray.size := by
      have := (List.getElem?_eq_some_iff.mp hv).1
      simpa using this
    refine wpAny_pyNext_zipD2_item S (row_draws hh k i1 a na us.toArray) (row_draws hh m i2 b nb ws.toArray) r1 r2 r3 ⟨t1, pa⟩ ⟨t2, pb⟩ lu lv fun x1 x2 h1 tk y1 y2 z1 p1 w1 w2 hT hsz same => ?_
    have e1 : x1 = u := by
      have e : us.toArray[i]? = some u := by simpa using hu
      rw [e] at y1
      exact (Option.some.inj y1).symm
    have e2 : x2 = v := by
      have e : ws.toArray[i]? = some v := by simpa using hv
      rw [e] at y2
      exact (Option.some.inj y2).symm
    subst e1 e2
    have lz : z < s.heap.objs.size := Heap.lt_size r1
    refine ⟨_, rfl, wpAny_letOwnedTupleGo_zip (s := { s with heap := h1, toks := tk }) z1 fun h2 z2 sb => ?_⟩
    have hT2 : h2.get? s.heap.objs.size = some { cls := .type "tuple", data := .seq #[x1, x2] } := (sb.2 _ (Nat.ne_of_gt lz)).trans hT
    have new : ObjOk X.prog X.w (upd H s.heap.objs.size (.tup [x, y])) h2 s.heap.objs.size (.tup [x, y]) :=
      ⟨show 2 ≤ sizeLine by decide, [x1, x2], .cons ru (.cons rv .nil), ⟨_, hT2, rfl, _, rfl⟩⟩
    have I1 : Inv X pins σ (upd H s.heap.objs.size (.tup [x, y])) { s with heap := h2, toks := tk } :=
      I.turnedNew (ch := [z, TI, TO, i1, i2]) (fun c o out e => by
        simp only [List.mem_cons, List.not_mem_nil, or_false, not_or] at out
        obtain ⟨c1, c2, c3, c4, c5⟩ := out
        exact (sb.2 c c1).trans (same c o c1 c3 c4 c5 e)) hf (Nat.le_refl _) new
    have sz : ∀ c, c ∈ [z, TI, TO, i1, i2] → c < s.heap.objs.size := fun c hcm => by
      obtain ⟨_, _, q1, _⟩ := t1.ob
      obtain ⟨_, _, q2, _⟩ := t2.ob
      simp only [List.mem_cons, List.not_mem_nil, or_false] at hcm
      rcases hcm with rfl | rfl | rfl | rfl | rfl
      · exact lz
      · exact Heap.lt_size r2
      · exact Heap.lt_size r3
      · exact Heap.lt_size q1
      · exact Heap.lt_size q2
    refine ⟨.ref s.heap.objs.size, _, I1, rfl, ⟨_, x, y, rfl, I.hok.fresh (Nat.le_refl _), rfl, fun l hl => by rw [row_inj I hl qa]; exact hx, fun l hl => by rw [row_inj I hl qb]; exact hy⟩,
      ⟨z2, (sb.2 _ S.TIz).trans (same _ _ S.TIz S.TITO S.TIi1 S.TIi2 r2), ⟨x1, x2, (sb.2 _ S.TOz).trans p1⟩, w1.1.keep fun o e => (sb.2 _ S.zi1.symm).trans e, w2.1.keep fun o e => (sb.2 _ S.zi2.symm).trans e⟩, fun c hcm => ?_⟩
    rw [upd_ne (Nat.ne_of_lt (sz c hcm))]
    exact (hf c hcm).1
  done := by
    intro X hP hw hK hc i pins s σ H E I hf st hg
    subst hP hw hK
    obtain ⟨r1, r2, ⟨x0, y0, r3⟩, t1, t2⟩ := st
    obtain ⟨xs, ys, qa, qb, hi⟩ := hg
    obtain ⟨us, va, pa⟩ := row_inv I qa
    obtain ⟨ws, vb, pb⟩ := row_inv I qb
    have hh : X.A.in1.handled = none := I.ok.hd hc
    have l1 : us.toArray.size = xs.length := by rw [List.size_toArray]; exact va.length.symm
    have l2 : ws.toArray.size = ys.length := by rw [List.size_toArray]; exact vb.length.symm
    refine wpAny_pyNext_zipD2_end S (row_draws hh k i1 a na us.toArray) (row_draws hh m i2 b nb ws.toArray) r1 r2 r3 ⟨t1, pa⟩ ⟨t2, pb⟩ (by omega) (by omega) (by omega) fun h1 tk same => ⟨rfl, I.turnedL (t' := tk) (ch := [z, TI, TO, i1, i2]) (fun c o out e => ?_) hf⟩
    simp only [List.mem_cons, List.not_mem_nil, or_false, not_or] at out
    obtain ⟨c1, c2, c3, c4, c5⟩ := out
    exact same c o c1 c3 c4 c5 e
  self := fun A i s Q E st h => wpAny_pyIter_zip st.1 h
def iZipM (K : PySem.W.Frag) (ta : TA) : TI := fun σ H R => ta σ H fun vs H1 => ∃ a b xs ys k m, vs = [.ref a, .ref b] ∧ RowV k K H1 a xs ∧ RowV m K H1 b ys ∧ R (ItzM k m K a b) H1
theorem off {n i j : Nat} (h : i ≠ j) : n + i ≠ n + j := fun e => h (Nat.add_left_cancel e)
theorem offL {n i b : Nat} (h : b < n) : n + i ≠ b := fun e => Nat.lt_irrefl n (Nat.lt_of_le_of_lt (Nat.le_add_right n i) (e ▸ h))
theorem out2 {x y z : Nat} (h : x ≠ y) (k : x ≠ z) : x ∉ [y, z] := fun e => by
  rcases List.mem_cons.mp e with e | e
  · exact h e
  · exact k (List.mem_singleton.mp e)
theorem sepN {n a b : Nat} (ha : a < n) (hb : b < n) : ZipSep2 (n + 4) (n + 2) (n + 3) n (n + 1) [n, a] [n + 1, b] where
  TIz := off (by decide)
  TOz := off (by decide)
  TITO := off (by decide)
  TIi1 := off (j := 0) (by decide)
  mem1 := List.mem_cons_self ..
  zf1 := out2 (off (j := 0) (by decide)) (offL ha)
  Tf1 := out2 (off (j := 0) (by decide)) (offL ha)
  TIi2 := off (by decide)
  mem2 := List.mem_cons_self ..
  zf2 := out2 (off (by decide)) (offL hb)
  Tf2 := out2 (off (by decide)) (offL hb)
  sep1_2 := out2 (off (i := 0) (by decide)) (offL (i := 0) hb)
  sep2_1 := out2 (off (j := 0) (by decide)) (offL ha)
theorem pi_zipM {X : Cx} {e e2 : Expr} {ta : TA} {p pos tpos : Pos} {elts : List Expr} {kk : Nat} (hg : Gl X "zip") (hm : X.mg "zip" = none) (ha : PA X [e, e2] ta)
    (hs : starEach [e, e2] X.env = (false, eval e X.env) :: starEach [e2] X.env := by rfl) (hpl : (backTo pos (starEach [e2] X.env)).any (·.1) = false := by rfl) :
    PI X (.Tuple elts kk tpos) (.Call (.Name "zip" p) [e, e2] [] pos) (iZipM X.K ta) := by
  refine ⟨fun pins s σ H R I hyp => ?_⟩
  refine Call_ (ld_blt I hg hm boot_zip (callWith_type1 (thn (ha.run pos pins s σ H _ I hyp) fun us s1 got => ?_) hs hpl))
  obtain ⟨vs, H1, I1, rel, a, b, xs, ys, k, m, rfl, qa, qb, q⟩ := got
  cases rel with
  | cons r rr =>
  cases rr with
  | cons r' rr =>
  cases rr
  cases r
  cases r'
  obtain ⟨us1, va, pa⟩ := row_inv I1 qa
  obtain ⟨us2, vb, pb⟩ := row_inv I1 qb
  refine call_zip_B (row_begins k a us1.toArray) (row_begins m b us2.toArray) pa pb fun h' z1 z2 z3 z4 z5 same => wpAny_pyIter_zip z1 ?_
  have I2 : Inv X pins σ H1 { s1 with heap := h' } := I1.kept (t' := s1.toks) same
  have free : ∀ c, c ∈ [s1.heap.objs.size + 4, s1.heap.objs.size + 2, s1.heap.objs.size + 3, s1.heap.objs.size, s1.heap.objs.size + 1] → FpOk X pins H1 c := fun c hcm => by
    have up : s1.heap.objs.size ≤ c := by
      simp only [List.mem_cons, List.not_mem_nil, or_false] at hcm
      rcases hcm with rfl | rfl | rfl | rfl | rfl
      · exact Nat.le_add_right _ _
      · exact Nat.le_add_right _ _
      · exact Nat.le_add_right _ _
      · exact Nat.le_refl _
      · exact Nat.le_add_right _ _
    exact I1.fpOk up (I1.hok.fresh up)
  have la := pa.lt
  have lb := pb.lt
  exact ⟨_, _, _, _, H1, rfl, I2, turn_zipM (sepN la lb) (Nat.ne_of_lt la) (Nat.ne_of_lt (Nat.lt_succ_of_lt lb)), ⟨z1, z2, ⟨_, _, z3⟩, RowIt.first z4, RowIt.first z5⟩, free, q⟩
section
variable {X : Cx} {a b : Expr} {t : RA} {K : PySem.W.Frag} {p pos tpos : Pos}
theorem iw_zipM {k m : Bool} {a b : Addr} {xs ys : List Dv} {keep : Ms → Prop} {H1 : Hp} (hyp : ∀ H M, Tp K H1 H → View K M H → keep M → (∃ ws, RowV k K H a ws ∧ Reps K H xs ws) ∧ ∃ ws, RowV m K H b ws ∧ Reps K H ys ws) : IW K (ItzM k m K a b) (zipD xs ys) keep H1 where
  go := fun i H M hi t v kp => by
    rw [zipD_len] at hi
    obtain ⟨⟨ws, s, z⟩, us, s2, z2⟩ := hyp H M t v kp
    obtain ⟨w, hw, _⟩ := z.get (i := i) (List.getElem?_eq_getElem (by omega))
    obtain ⟨u, hu, _⟩ := z2.get (i := i) (List.getElem?_eq_getElem (by omega))
    exact ⟨ws, us, w, u, s, s2, hw, hu⟩
  stop := fun H M t v kp => by
    obtain ⟨⟨ws, s, z⟩, us, s2, z2⟩ := hyp H M t v kp
    exact ⟨ws, us, s, s2, by rw [zipD_len, ← z.length, ← z2.length]⟩
  yld := fun i H M x H' hi t v kp y => by
    rw [zipD_len] at hi
    obtain ⟨⟨ws, s, z⟩, us, s2, z2⟩ := hyp H M t v kp
    obtain ⟨w, hw, rw'⟩ := z.get (i := i) (List.getElem?_eq_getElem (by omega))
    obtain ⟨u, hu, ru⟩ := z2.get (i := i) (List.getElem?_eq_getElem (by omega))
    obtain ⟨T, x', z', e, hn, e2, y2, y3⟩ := y
    subst e e2
    have q1 := y2 ws s
    have q2 := y3 us s2
    rw [hw] at q1
    rw [hu] at q2
    cases q1
    cases q2
    exact ⟨_, zipD_get (List.getElem?_eq_getElem (by omega)) (List.getElem?_eq_getElem (by omega)), Tp.new hn, rep_pair hn rw' ru, v.new hn, fun a ha => upd_ne fun q => ha (q ▸ hn)⟩
theorem row_stand {H1 : Hp} {M1 : Ms} {d : Dv} {v : V} {ds : List Dv} (r : Rep K H1 d v) (hv : View K M1 H1) (h : itemsA d M1 = some ds) :
    ∃ k a vs, v = .ref a ∧ RowV k K H1 a vs ∧ ∀ H M, Tp K H1 H → View K M H → itemsA d M = some ds → ∃ ws, RowV k K H a ws ∧ Reps K H ds ws := by
  obtain ⟨a, vs, e, z, hs⟩ := items_stand r hv h
  rcases hs with ⟨s, hs⟩ | ⟨s, hs⟩
  · exact ⟨true, a, vs, e, s, fun H M t _ _ => ⟨vs, hs H t, z.mono t⟩⟩
  · exact ⟨false, a, vs, e, s, fun H M t w kp => hs H M t w kp⟩
def aiZipX (t : RA) : RI := fun ρ M Q => t ρ M fun ds M1 => on2 ds fun d f => onS (itemsA d M1) fun xs => onS (itemsA f M1) fun ys => Q (zipD xs ys) (fun M => itemsA d M = some xs ∧ itemsA f M = some ys) M1
theorem ai_zipX {elts : List Expr} {kk : Nat} (hm : X.mg "zip" = none) (ha : AA X [a, b] t) (hg : Gl X "zip" := by rfl) (hs : starEach [a, b] X.env = (false, eval a X.env) :: starEach [b] X.env := by rfl) (hpl : (backTo pos (starEach [b] X.env)).any (·.1) = false := by rfl) : AI X (.Tuple elts kk tpos) (.Call (.Name "zip" p) [a, b] [] pos) (aiZipX t) :=
  pi_imp (pi_zipM hg hm ha hs hpl) fun σ H R ⟨ρ, M, Q, hr, hv, q, k⟩ => seqA hr hv q fun vs H1 ds M1 t1 r1 v1 q1 => by
    obtain ⟨d, f, e0, q2⟩ := on2_ex q1
    obtain ⟨xs, h1, q3⟩ := onS_ex q2
    obtain ⟨ys, h2, q4⟩ := onS_ex q3
    subst e0
    obtain ⟨v, w, e, rd, rd2⟩ := reps2 r1
    obtain ⟨k1, a, us, e1, s, hs⟩ := row_stand rd v1 h1
    obtain ⟨k2, b, ws, e2, s2, hs2⟩ := row_stand rd2 v1 h2
    exact ⟨a, b, us, ws, k1, k2, by rw [e, e1, e2], s, s2, k _ H1 _ _ M1 t1 v1 q4 (iw_zipM fun H M t v kp => ⟨hs H M t v kp.1, hs2 H M t v kp.2⟩)⟩
end
end HC
set_option maxHeartbeats 4000000
namespace HC
open PySem L2 PyProof.Rows
section
variable {X : Cx} {a b c e o tg : Expr} {ta tb tc te to : RE} {pos apos cpos p tpos : Pos} {K : PySem.W.Frag} {es : List Expr} {t : RA}
abbrev ASp := List Dv → Ms → DK → Prop
def cSp (K : PySem.W.Frag) (asp : ASp) : Sp := fun vs H Q' _ => ∃ ds M Q, Reps K H ds vs ∧ View K M H ∧ asp ds M Q ∧ LkV K H Q Q'
abbrev FnA (P : Program) (w : World) (K : PySem.W.Frag) (mg : Str → Option Value) (base : Heap) (k : Nat) (f : Addr) (fd : FuncData) (ps : List Str) (asp : ASp) : Prop := FnOk P w K mg base CX0 k f fd ps (cSp K asp)
def aCall (asp : ASp) (t : RA) : RE := fun ρ M Q => t ρ M fun ds M1 => asp ds M1 Q
theorem acall_imp {asp : ASp} : ∀ σ H Q, cE K (aCall asp t) σ H Q → tCall (cSp K asp) [] E0 (cA K t) σ H Q := fun σ H Q' ⟨ρ, M, Q, hr, hv, q, k⟩ => seqA hr hv q fun vs H1 ds M1 t1 r1 v1 q1 =>
  ⟨ds, M1, Q, by rw [List.append_nil]; exact r1, v1, q1, k.up t1⟩
variable {x : Str} {f : Addr} {fd : FuncData} {ps : List Str} {asp : ASp} {k : Nat}
theorem ae_call (F : FnA X.prog X.w X.K X.mg X.base k f fd ps asp) (hr : Room k X.A) (hm : X.mg x = some (.ref f)) (hk : PySem.W.keepIn X.K (.ref f) = true) (hb : Binds X.K fd ps []) (ha : AA X (e :: es) t) (hg : Gl X x := by rfl)
    (hdb : (x == ("__debug__" : Str)) = false := by decide) (he : starEach (e :: es) X.env = (false, eval e X.env) :: starEach es X.env := by rfl) (hpl : (backTo pos (starEach es X.env)).any (·.1) = false := by rfl) : AE X (.Call (.Name x p) (e :: es) [] pos) (aCall asp t) :=
  pe_imp (pe_call F hr hg hm hk hb .nil pass0 ha hdb he hpl) acall_imp
abbrev BX (P : Program) (w : World) (K : PySem.W.Frag) (mg : Str → Option Value) (base : Heap) (N : List Str) (qual : Str) (st : Stmt) (f : Addr) (cdv : Value) (A : Around) (outer : List Env) (s : Shared) (H : Hp) (E : XK) : Cx := (cxOf CX0 P w K mg base N qual (defScope st) f cdv A outer s H E).nox
def retD (Q : DK) : Ends' := { nx := fun _ M' => ∃ M'', Sub M'' M' ∧ Q .non M'', rt := fun d M' => ∃ M'', Sub M'' M' ∧ Q d M'' }
theorem fnA {P : Program} {w : World} {mg : Str → Option Value} {base : Heap} {qual : Str} {st : Stmt} {N : List Str} {t : RS} (F : Fun K x qual st f fd) (S : FnScope N ps (defScope st)) (len : ∀ ds M Q, asp ds M Q → ds.length = ps.length)
    (body : ∀ (cdv : Value) (A : Around) (outer : List Env) (s : Shared) (H : Hp) (E : XK), Room k (A.deeper (envOfC qual (defScope st) s.heap.objs.size f cdv)) → ASs (BX P w K mg base N qual st f cdv A outer s H E) (defBody st) t)
    (spec : ∀ ds M Q, asp ds M Q → t (retD Q) (startA N.length ds) M) : FnA P w K mg base (k + 1) f fd ps asp := by
  refine F.ok S (fun vs H Q' E ⟨ds, M, Q, r, _, q, _⟩ => by rw [← r.length]; exact len ds M Q q) fun cdv A outer s H vs Q' E hr ⟨ds, M, Q, r, hv, q, kk⟩ => ?_
  refine ⟨_, body cdv A outer s H E hr, startA N.length ds, M, retD Q, repE_start r, hv, spec ds M Q q, ?_, ?_, ?_, ?_⟩
  · rintro σ H' ρ M' tp _ v ⟨M'', sb, q'⟩
    exact kk _ _ _ M'' tp rep_non (v.sub sb) q'
  · rintro v H' d M' tp rd vv ⟨M'', sb, q'⟩
    exact kk _ _ _ M'' tp rd (vv.sub sb) q'
  · rintro _ _ _ _ _ _ _ h
    exact h.elim
  · rintro _ _ _ _ _ _ _ h
    exact h.elim
end
end HC
namespace HC
open PySem L2 PyProof.Rows
section
variable {X : Cx} {a b c e : Expr} {ta tb tc te : RE} {pos : Pos}
theorem ae_chain2 {op op' : CmpOp} {r r' : R2} {ar ar' : AR2} (ho : OpR X (compareOp op) r) (ho' : OpR X (compareOp op') r') (h : Ab2 X.K r ar) (h' : Ab2 X.K r' ar') (ha : AE X a ta) (hb : AE X b tb) (hc : AE X c tc) (hm : lastMarks [op, op'] [b, c] = false := by with_unfolding_all rfl) : AE X (.Compare a [op, op'] [b, c] pos) (aChain ar ar' ta tb tc) :=
  pe_imp (pe_chain ho ho' ha hb hc hm) (chain_imp h h')
theorem pgt_name (i : Nat) {x : Str} (hN : X.N.Nodup) (hi : X.N[i]? = some x := by rfl) (hx : Loc X.env.scope x := by first | exact .inl rfl | exact .inr rfl) (hf : X.fn x = true ∨ X.env.scope.names.lookup x = some .local := by first | exact .inr rfl | exact .inl rfl) : PG X (.Name x pos) (Tg.g X.K (.nm i)) := by
  have h := pg_name (pos := pos) hN hi hx hf
  have e : Tg.g X.K (.nm i) = gName i := by simp only [Tg.g]
  rw [e]; exact h
def PGTs (X : Cx) (es : List Expr) (ts : List Tg) : Prop := PGs X es (Tg.gs X.K ts) ∧ (assignEach es X.env).length = ts.length
theorem pgts_nil : PGTs X [] [] := by
  refine ⟨?_, rfl⟩
  have e : Tg.gs X.K [] = gNil := by simp only [Tg.gs]
  rw [e]; exact pgs_nil
theorem pgts_cons {es : List Expr} {t : Tg} {ts : List Tg} (h : PG X e (Tg.g X.K t)) (hs : PGTs X es ts) (he : (assignEach (e :: es) X.env).map (·.2) = assign e X.env :: (assignEach es X.env).map (·.2) := by rfl) : PGTs X (e :: es) (t :: ts) := by
  refine ⟨?_, ?_⟩
  · have q : Tg.gs X.K (t :: ts) = gCons (Tg.g X.K t) (Tg.gs X.K ts) := by simp only [Tg.gs]
    rw [q]; exact pgs_cons h hs.1 he
  · have := congrArg List.length he
    simp only [List.length_map, List.length_cons] at this
    rw [this, hs.2]; rfl
theorem pgt_tup {es : List Expr} {ts : List Tg} {k : Nat} (hc : X.calm = true) (h : PGTs X es ts) (hst : (assignEach es X.env).findIdx? (·.1) = none := by rfl) : PG X (.Tuple es k pos) (Tg.g X.K (.tp ts)) := by
  have e : Tg.g X.K (.tp ts) = fun v σ H Q => gTup X.K ts.length (Tg.gs X.K ts) v σ H Q ∨ gLst X.K ts.length (Tg.gs X.K ts) v σ H Q := by simp only [Tg.g]
  rw [e]
  exact pg_or (pg_tup hc h.1 h.2 hst) (pg_lst hc h.1 h.2 hst)
end
end HC
namespace HC
open PySem L2 PyProof.Rows
theorem law_end {K : PySem.W.Frag} {H : Hp} {a : Addr} {ns : List Int} {sp : ASp} {E : XK} (hl : ns.length ≤ 63) (hO : Only H) (hS : SqL K H a (ns.map V.int)) (h : ∀ ns : List Int, ns.length ≤ 63 → sp [.rol (ns.map Dv.int)] (fun _ => none) (fun d _ => d = .bl true)) :
    cSp K sp [.ref a] H (fun v _ => v = .bl true) E := by
  have hF : SqF K H a (ns.map V.int) := by
    rcases hS with (q | ⟨o, q⟩) | q
    · rcases hO a with z | ⟨o, xs, z⟩
      · rw [q] at z; cases z
      · rw [q] at z; cases z
    · exact .inl ⟨o, q⟩
    · exact .inr (.inr q)
  refine ⟨[.rol (ns.map Dv.int)], fun _ => none, fun d _ => d = .bl true, Reps.cons ?_ Reps.nil, (fun a c e => nomatch e : View K (fun _ => none) H), h ns hl, ?_⟩
  · simp only [Rep]
    exact ⟨a, _, rfl, hF, Reps.of_ints ns⟩
  · rintro v H' d M' _ r _ rfl
    exact rep_bl_inv r
end HC
namespace HC
open PySem L2
section
variable {M : Ms} {p : Addr} {xs : List Dv}
theorem lenA_l (h : M p = some (.lst xs)) : lenA (.ref p) M = some xs.length := by simp [lenA, itemsA, h]
theorem itemsA_l (h : M p = some (.lst xs)) : itemsA (.ref p) M = some xs := by simp [itemsA, h]
theorem lstA_l (h : M p = some (.lst xs)) : lstA (.ref p) M = some xs := by simp [lstA, h]
theorem lstC_l (h : M p = some (.lst xs)) : lstC (M p) = some xs := by simp [lstC, h]
theorem itemsA_r : itemsA (.ref p) M = lstC (M p) := by
  simp only [itemsA, lstC] <;> (cases M p with
    | none => rfl
    | some c => cases c <;> rfl)
theorem lenA_r : lenA (.ref p) M = (lstC (M p)).map List.length := by simp only [lenA, itemsA_r]
theorem lstA_r : lstA (.ref p) M = lstC (M p) := itemsA_r
theorem lstC_s : lstC (some (.lst xs)) = some xs := rfl
theorem tyM_list (h : M p = some (.lst xs)) : tyM "list" (.ref p) M := by simp [tyM, h]
theorem retEnd {Q : DK} {d : Dv} {M : Ms} (h : Q d M) : (retD Q).rt d M := ⟨M, Sub.refl M, h⟩
theorem retSub {Q : DK} {d : Dv} {M M' : Ms} (s : Sub M M') (h : Q d M) : (retD Q).rt d M' := ⟨M, s, h⟩
theorem atI_0 {α : Type} (x : α) (xs : List α) : atI (x :: xs) 0 = some x := by simp [atI, ixN]
theorem ixN_0 (n : Nat) (h : 0 < n) : ixN n 0 = some 0 := by simp [ixN, h]
theorem atI_nat {α : Type} {xs : List α} {i : Nat} {x : α} (h : xs[i]? = some x) : atI xs (i : Int) = some x := by
  have hl := (List.getElem?_eq_some_iff.mp h).1
  have he : xs[i] = x := (List.getElem?_eq_some_iff.mp h).2
  simp [atI, ixN, hl, he]
theorem ixN_nat {n i : Nat} (h : i < n) : ixN n (i : Int) = some i := by simp [ixN, h]
end
theorem dec_T {p : Prop} {inst : Decidable p} (h : p) : @decide p inst = true := decide_eq_true h
theorem dec_F {p : Prop} {inst : Decidable p} (h : ¬ p) : @decide p inst = false := decide_eq_false h
theorem lt_line {n : Nat} (h : n < 1000000) : n < sizeLine := Nat.lt_trans h (by decide)
theorem le_line {n : Nat} (h : n ≤ 1000000) : n ≤ sizeLine := Nat.le_trans h (by decide)
abbrev dn (n : Nat) : Dv := .int (n : Int)
section
variable {M : Ms} {D p : Addr} {ρ : Env'} {keep : Ms → Prop} {tg : Tg} {own : List Nat} {tt : RT} {te : RE} {Q : Ms → Prop} {N : Ms → Prop}
theorem lcW_inv {ds : List Dv} (P : Nat → Ms → Prop) (h0 : P 0 M) (hk : ∀ i M, i ≤ ds.length → P i M → keep M) (hs : ∀ i d M, ds[i]? = some d → P i M → lcT tg own tt te ρ D d (P (i + 1)) M) (hd : ∀ M, P ds.length M → Q M) : lcW keep tg own tt te ρ D Q ds M := by
  have main : ∀ (n i : Nat), i + n = ds.length → ∀ M, P i M → lcW keep tg own tt te ρ D Q (ds.drop i) M := by
    intro n
    induction n with
    | zero =>
      intro i hi M p
      have e : i = ds.length := by omega
      subst e
      rw [List.drop_length, lcW_eqn]
      exact ⟨hk _ _ (Nat.le_refl _) p, hd _ p⟩
    | succ n ih =>
      intro i hi M p
      have hlt : i < ds.length := by omega
      rw [drop_cons (List.getElem?_eq_getElem hlt), lcW_eqc]
      exact ⟨hk _ _ (by omega) p, P (i + 1), fun M1 p1 => ih (i + 1) (by omega) M1 p1, hs i _ M (List.getElem?_eq_getElem hlt) p⟩
  simpa using main ds.length 0 (by omega) M h0
theorem rangeA_get {lo : Int} {n i : Nat} {d : Dv} (h : (rangeA lo n)[i]? = some d) : i < n ∧ d = .int (lo + (i : Int)) := by
  unfold rangeA at h
  rw [List.getElem?_map] at h
  by_cases hi : i < n
  · rw [List.getElem?_range hi] at h
    simp at h
    exact ⟨hi, h.symm⟩
  · rw [List.getElem?_eq_none (by simpa using hi)] at h
    cases h
theorem rangeA_len {lo : Int} {n : Nat} : (rangeA lo n).length = n := by simp [rangeA]
theorem enumD_get' {ds : List Dv} {i : Nat} {d : Dv} (h : (enumD ds)[i]? = some d) : ∃ f, ds[i]? = some f ∧ d = pairD (dn i) f := by
  have hi := (List.getElem?_eq_some_iff.mp h).1
  rw [enumD_len] at hi
  have := enumD_get (List.getElem?_eq_getElem hi)
  rw [this] at h
  exact ⟨_, List.getElem?_eq_getElem hi, (Option.some.inj h).symm⟩
end
theorem mup_none {M : Ms} {a q : Addr} {c : Cell} (h : mup M a c q = none) : q ≠ a ∧ M q = none := by
  by_cases e : q = a
  · subst e; rw [mup_same] at h; cases h
  · rw [mup_ne e] at h; exact ⟨e, h⟩
theorem wk_of {N : Env' → Ms → Prop} {ρ : Env'} {M : Ms} (h : N ρ M) : wk N ρ M := ⟨ρ, M, SubE.refl ρ, Sub.refl M, h⟩
def PotAt (M0 : Ms) (p : Addr) (pot : List Int) (M' : Ms) : Prop := M' p = some (.lst (pot.map Dv.int)) ∧ ∀ c, Sub (mup M0 p c) (mup M' p c)
theorem PotAt.first {M0 : Ms} {p : Addr} {pot : List Int} : PotAt M0 p pot (mup M0 p (.lst (pot.map Dv.int))) := ⟨mup_same, fun c => by rw [mup_mup]; exact Sub.refl _⟩
theorem PotAt.sub {M0 M1 M2 : Ms} {p : Addr} {pot : List Int} (h : PotAt M0 p pot M1) (s : Sub M1 M2) : PotAt M0 p pot M2 :=
  ⟨s p _ h.1, fun c => (h.2 c).trans (Sub.both s)⟩
theorem PotAt.new {M0 M1 : Ms} {p q : Addr} {pot : List Int} {l : Cell} (h : PotAt M0 p pot M1) (hq : M1 q = none) : PotAt M0 p pot (mup M1 q l) := h.sub (Sub.new hq)
theorem PotAt.put {M0 M1 : Ms} {p : Addr} {pot pot2 : List Int} (h : PotAt M0 p pot M1) : PotAt M0 p pot2 (mup M1 p (.lst (pot2.map Dv.int))) :=
  ⟨mup_same, fun c => by rw [mup_mup]; exact h.2 c⟩
theorem PotAt.fin {M0 M1 : Ms} {p : Addr} {pot : List Int} (h : PotAt M0 p pot M1) : Sub (mup M0 p (.lst (pot.map Dv.int))) M1 := by
  have := h.2 (.lst (pot.map Dv.int))
  rw [mup_self h.1] at this
  exact this
end HC
set_option maxHeartbeats 1000000
namespace HC
open PySem L2 PyProof.Rows
section
variable {X : Cx} {pos : Pos} {K : PySem.W.Frag}
def aPairs : List (RE × RE) → Env' → Ms → (List (Dv × Dv) → Ms → Prop) → Prop
  | [], _, M, Q => Q [] M
  | (tk, tv) :: r, ρ, M, Q => tk ρ M fun x M1 => tv ρ M1 fun y M2 => aPairs r ρ M2 fun ps M3 => Q ((x, y) :: ps) M3
def keysP : List (Dv × Dv) → Option (List (Key × Dv))
  | [] => some []
  | (x, y) :: r => (keyD x).bind fun k => (keysP r).map fun z => (k, y) :: z
def mergeA (kds more : List (Key × Dv)) : List (Key × Dv) := more.foldl (fun acc kv => putA acc kv.1 kv.2) kds
def aDisp (ts : List (RE × RE)) : RE := fun ρ M Q => ∀ p, M p = none → aPairs ts ρ (mup M p (.dic [])) fun ps M2 => M2 p = some (.dic []) ∧ onS (keysP ps) fun kds => kds.length ≤ 15 ∧ Q (.ref p) (mup M2 p (.dic (mergeA [] kds)))
def ADs (X : Cx) (pos : Pos) (keys : List (Option Expr)) (values : List Expr) (ts : List (RE × RE)) : Prop := PPs X pos keys values (ts.map fun z => (cE X.K z.1, cE X.K z.2))
theorem app_nil : ADs X pos [] [] [] := pps_nil
theorem app_cons {k v : Expr} {ks : List (Option Expr)} {vs : List Expr} {tk tv : RE} {ts : List (RE × RE)} (hk : AE X k tk) (hv : AE X v tv) (hr : ADs X pos ks vs ts) : ADs X pos (some k :: ks) (v :: vs) ((tk, tv) :: ts) := pps_cons hk hv hr
abbrev RP (K : PySem.W.Frag) (H : Hp) : List (Dv × Dv) → List (V × V) → Prop := Paired fun p q => Rep K H p.1 q.1 ∧ Rep K H p.2 q.2
theorem pairs_ok : ∀ {ts : List (RE × RE)} {ρ : Env'} {σ : L2.St} {M : Ms} {H : Hp} {Q : List (Dv × Dv) → Ms → Prop} {Q' : List (V × V) → Hp → Prop}, RepE K H ρ σ → View K M H → aPairs ts ρ M Q →
    (∀ ps H' dps M', Tp K H H' → RP K H' dps ps → View K M' H' → Q dps M' → Q' ps H') → tPairs (ts.map fun z => (cE K z.1, cE K z.2)) σ H Q'
  | [], _, _, _, H, _, _, _, hv, q, k => k [] H [] _ (Tp.refl H) .nil hv q
  | (tk, tv) :: ts, _, _, _, _, _, _, hr, hv, q, k => seqE hr hv q fun x H1 dx M1 t1 r1 v1 q1 => seqE (hr.mono t1) v1 q1 fun y H2 dy M2 t2 r2 v2 q2 =>
    pairs_ok (hr.mono (t1.trans t2)) v2 q2 fun ps H3 dps M3 t3 rp v3 q3 => k _ H3 ((dx, dy) :: dps) M3 ((t1.trans t2).trans t3) (.cons ⟨r1.mono (t2.trans t3), r2.mono t3⟩ rp) v3 q3
theorem keysP_ok {H : Hp} : ∀ {dps : List (Dv × Dv)} {ps : List (V × V)} {kds : List (Key × Dv)}, RP K H dps ps → keysP dps = some kds → ∃ kvs : List (Key × V), ps = kvs.map (fun kv => (kV kv.1, kv.2)) ∧ KP K H Key kds kvs
  | [], _, _, r, h => by cases r; cases h; exact ⟨[], rfl, .nil⟩
  | (x, y) :: dps, _, kds, r, h => by
    cases r with
    | @cons a b as bs r1 r2 =>
    obtain ⟨v, w⟩ := b
    rw [keysP] at h
    cases e : keyD x with
    | none => rw [e] at h; cases h
    | some kk =>
      rw [e] at h
      cases e2 : keysP dps with
      | none => rw [e2] at h; cases h
      | some z =>
        rw [e2] at h
        cases h
        obtain ⟨kvs, e3, r3⟩ := keysP_ok r2 e2
        have e4 : v = kV kk := keyD_ok r1.1 e
        exact ⟨(kk, w) :: kvs, by rw [e3, e4]; rfl, .cons ⟨rfl, r1.2⟩ r3⟩
theorem merge_ok {H : Hp} : ∀ {kds : List (Key × Dv)} {kvs : List (Key × V)} {k0 : List (Key × Dv)} {v0 : List (Key × V)}, KP K H Key kds kvs → KP K H Key k0 v0 → KP K H Key (mergeA k0 kds) (mergeK v0 kvs)
  | _, _, _, _, .nil, z => z
  | (k1, d1) :: kds, (k2, v1) :: kvs, k0, v0, .cons ⟨e, r⟩ t, z => by
    have e' : k1 = k2 := e
    subst e'
    exact merge_ok (k0 := putA k0 k1 d1) (v0 := putK v0 k1 v1) t (kp_put r z)
theorem ae_disp {keys : List (Option Expr)} {values : List Expr} {ts : List (RE × RE)} (h : ADs X pos keys values ts) (hall : keys.all (·.isSome) = true) (hl : keys.length = values.length) (h0 : keys ≠ [])
    (h15 : keys.length ≤ 15) : AE X (.Dict keys values pos) (aDisp ts) :=
  pe_imp (pe_disp h hall hl h0 h15) fun σ H Q' ⟨ρ, M, Q, hr, hv, q, k⟩ p hp => by
    have t0 : Tp X.K H (upd H p (.dK [])) := Tp.new hp
    have v0 : View X.K (mup M p (.dic [])) (upd H p (.dK [])) := hv.put (c := .dic []) (by rw [hp]; trivial) ⟨[], upd_same, .nil⟩
    refine pairs_ok (hr.mono t0) v0 (q p (hv.free hp)) fun ps H2 dps M2 t2 rp v2 q2 => ?_
    obtain ⟨e, q3⟩ := q2
    obtain ⟨kds, ek, hlen, q4⟩ := onS_ex q3
    obtain ⟨kvs0, eh, z0⟩ := v2 _ _ e
    cases z0
    obtain ⟨kvs, ep, zk⟩ := keysP_ok rp ek
    have tp : Tp X.K H2 (upd H2 p (.dK (mergeK [] kvs))) := Tp.put (v2.soft e)
    exact ⟨eh, kvs, ep, by rw [← kp_len zk]; exact hlen, k _ _ _ _ ((t0.trans t2).trans tp) rep_ref (v2.put (c := .dic (mergeA [] kds)) (v2.soft e) ⟨_, upd_same, kp_mono (merge_ok zk .nil) tp⟩) q4⟩
def aDnew : RE := fun _ M Q => ∀ p, M p = none → Q (.ref p) (mup M p (.dic []))
theorem ae_dnew : AE X (.Dict [] [] pos) aDnew := pe_imp pe_dnewK fun σ H Q' ⟨ρ, M, Q, hr, hv, q, k⟩ p hp =>
  k _ _ _ _ (Tp.new hp) rep_ref (hv.put (c := .dic []) (by rw [hp]; trivial) ⟨[], upd_same, .nil⟩) (q p (hv.free hp))
end
end HC
set_option maxHeartbeats 1000000
namespace HC
open PySem L2 PyProof.Rows
theorem onIf_decT {c A B : Prop} {inst : Decidable c} (h : c) (q : A) : onIf (@decide c inst) A B := by rw [decide_eq_true h]; exact q
theorem onIf_decF {c A B : Prop} {inst : Decidable c} (h : ¬ c) (q : B) : onIf (@decide c inst) A B := by rw [decide_eq_false h]; exact q
theorem onIf_ndecT {c A B : Prop} {inst : Decidable c} (h : ¬ c) (q : A) : onIf (!@decide c inst) A B := by rw [decide_eq_false h]; exact q
theorem onIf_ndecF {c A B : Prop} {inst : Decidable c} (h : c) (q : B) : onIf (!@decide c inst) A B := by rw [decide_eq_true h]; exact q
theorem look_new {M : Ms} {p r : Addr} {c x : Cell} (h : M p = some c) (hr : M r = none) : mup M r x p = some c := by rw [mup_ne (ne_of_new h hr)]; exact h
theorem CMul_l {i j : Int} (h : -18446744073709551616 < i ∧ i < 18446744073709551616) : CMul i j ∨ CMulW i j := .inl (.inl h)
theorem CMul_r {i j : Int} (h : -18446744073709551616 < j ∧ j < 18446744073709551616) : CMul i j ∨ CMulW i j := .inl (.inr h)
theorem inv_frz {X : Cx} {pins : List (Addr × Obj)} {σ : L2.St} {H : Hp} {s : Shared} {a : Addr} {xs : List V} (I : Inv X pins σ H s) (h : H a = some (.lst xs)) : ∃ o, Inv X pins σ (upd H a (.frz o (.lst xs))) s := by
  obtain ⟨z, its, n, r, e⟩ := I.hok a _ h
  have ne : ∀ {b : Addr} {u : HO}, H b = some u → u ≠ .lst xs → b ≠ a := fun {b u} q hu e' => by
    subst e'; rw [h] at q; cases q; exact hu rfl
  refine ⟨{ cls := .type "list", data := .seq its.toArray n }, I.un (h' := s.heap) (t' := s.toks) ⟨fun b o q n hb hx => q, fun b o q n _ _ => ⟨o.slots, q⟩, fun b o q n hx => ?_, fun b o q _ => ⟨o, q⟩, fun b ys q => ?_, fun b o u q => ?_, fun b ps q => ⟨#[], ?_⟩⟩ fun b u (q : upd H a (.frz { cls := .type "list", data := .seq its.toArray n } (.lst xs)) b = some u) => ?_⟩
  · rw [upd_ne]
    · exact n
    · intro e'; subst e'; rw [h] at n; cases n
  · rw [upd_ne (ne q (fun z => nomatch z))]; exact q
  · rw [upd_ne (ne q (fun z => nomatch z))]; exact q
  · rw [upd_ne (ne q (fun z => nomatch z))]; simpa using q
  · by_cases hb : b = a
    · subst hb
      rw [upd_same] at q
      cases q
      exact ⟨e, z, its, n, r, e⟩
    · rw [upd_ne hb] at q
      exact (I.hok b u q).stay (fun _ _ _ q => q) (fun c q => by rw [upd_ne (ne q (fun z => nomatch z))]; exact q) (fun c ys q => by rw [upd_ne (ne q (fun z => nomatch z))]; exact q)
theorem pe_frz {X : Cx} {e : Expr} {t : TE} (h : PE X e t) : PE X e (fun σ H Q => t σ H (fun v H' => Q v H' ∨ ∃ a xs, v = .ref a ∧ H' a = some (.lst xs) ∧ ∀ o, Q v (upd H' a (.frz o (.lst xs))))) :=
  ⟨fun pins s σ H Q I q => thn (h.run pins s σ H _ I q) fun u s' ⟨v, H', I', r, q'⟩ => by
    rcases q' with q' | ⟨a, xs, e, hl, q'⟩
    · exact ⟨v, H', I', r, q'⟩
    · obtain ⟨o, I2⟩ := inv_frz I' hl
      exact ⟨v, _, I2, r, q' o⟩⟩
theorem ps_frz {X : Cx} {st : Stmt} {t : TS} (h : PS X st t) : PS X st (fun D σ H => t { D with nx := fun σ' H' => D.nx σ' H' ∨ ∃ a xs, H' a = some (.lst xs) ∧ ∀ o, D.nx σ' (upd H' a (.frz o (.lst xs))) } σ H) :=
  ⟨fun pins s σ H D I q => thn (h.run pins s σ H _ I q) fun f s' r => by
    cases f with
    | next =>
      obtain ⟨σ', H', I', q'⟩ := r
      rcases q' with q' | ⟨a, xs, hl, q'⟩
      · exact ⟨σ', H', I', q'⟩
      · obtain ⟨o, I2⟩ := inv_frz I' hl
        exact ⟨σ', _, I2, q' o⟩
    | brk => exact r
    | cont => exact r
    | ret u => exact r⟩
def fzK (d : Dv) (M : Ms) (Q : DK) : Prop := match d with
  | .ref a => onS (lstC (M a)) fun xs => ∃ M', M' a = none ∧ Sub M' M ∧ Q (.rol xs) M'
  | d => Q d M
def aFz (te : RE) : RE := fun ρ M Q => te ρ M fun d M1 => fzK d M1 Q
theorem fz_rep {K : PySem.W.Frag} {H : Hp} {a : Addr} {xs : List Dv} {vs : List V} {o : Obj} (hs : Soft (H a)) (r : Reps K H xs vs) : Rep K (upd H a (.frz o (.lst vs))) (.rol xs) (.ref a) := by
  simp only [Rep]
  exact ⟨a, vs, rfl, .inl ⟨o, upd_same⟩, r.mono (Tp.put hs)⟩
theorem fz_view {K : PySem.W.Frag} {H : Hp} {M M' : Ms} {a : Addr} {o : HO} (v : View K M H) (hs : Soft (H a)) (h0 : M' a = none) (s : Sub M' M) : View K M' (upd H a o) := fun b c e => by
  have hb : b ≠ a := fun z => by subst z; rw [h0] at e; cases e
  exact (v b c (s b c e)).keep (Tp.put hs) (upd_ne hb) (TpE.soft hs)
theorem fzK_val {d : Dv} {M : Ms} {Q : DK} (h : fzK d M Q) : (∃ a xs M', d = .ref a ∧ M a = some (.lst xs) ∧ M' a = none ∧ Sub M' M ∧ Q (.rol xs) M') ∨ Q d M := by
  cases d with
  | ref a =>
    obtain ⟨xs, e, M', h0, s, q⟩ := onS_ex h
    exact .inl ⟨a, xs, M', rfl, lstC_eq e, h0, s, q⟩
  | _ => exact .inr h
theorem fz_new {M : Ms} {p : Addr} {xs : List Dv} {Q : DK} (h : M p = none) (q : Q (.rol xs) M) : fzK (.ref p) (mup M p (.lst xs)) Q := onS_of (a := xs) (by rw [mup_same]; rfl) ⟨M, h, Sub.new h, q⟩
def mdel (M : Ms) (a : Addr) : Ms := fun b => if b = a then none else M b
theorem mdel_same {M : Ms} {a : Addr} : mdel M a a = none := if_pos rfl
theorem mdel_ne {M : Ms} {a b : Addr} (h : b ≠ a) : mdel M a b = M b := if_neg h
theorem mdel_sub {M : Ms} {a : Addr} : Sub (mdel M a) M := fun b c e => by
  by_cases h : b = a
  · subst h; rw [mdel_same] at e; cases e
  · rw [mdel_ne h] at e; exact e
theorem mdel_of {M M' : Ms} {a : Addr} (s : Sub M M') (h : M a = none) : Sub M (mdel M' a) := fun b c e => by
  rw [mdel_ne (ne_of_new e h)]; exact s b c e
theorem fz_del {M : Ms} {p : Addr} {xs : List Dv} {Q : DK} (h : M p = some (.lst xs)) (q : Q (.rol xs) (mdel M p)) : fzK (.ref p) M Q := onS_of (a := xs) (by rw [h]; rfl) ⟨_, mdel_same, mdel_sub, q⟩
section
variable {X : Cx} {e : Expr} {te : RE} {st : Stmt}
theorem ae_fz (h : AE X e te) : AE X e (aFz te) := pe_imp (pe_frz h) fun σ H Q' ⟨ρ, M, Q, hr, hv, q, k⟩ => seqE hr hv q fun v H1 d M1 t1 r1 v1 q1 => by
  rcases fzK_val q1 with ⟨a, xs, M', rfl, e1, h0, s, q2⟩ | q2
  · obtain ⟨vs, h1, h2⟩ := view_lst v1 e1
    have hs := v1.soft e1
    exact .inr ⟨a, vs, rep_ref_inv r1, h1, fun o => by
      rw [rep_ref_inv r1]
      exact k _ _ (.rol xs) M' (t1.trans (Tp.put hs)) (fz_rep hs h2) (fz_view v1 hs h0 s) q2⟩
  · exact .inl (k _ _ _ _ t1 r1 v1 q2)
theorem repE_swap {K : PySem.W.Frag} {H H' : Hp} {ρ : Env'} {σ : L2.St} {i : Nat} {d d' : Dv} (hi : ρ[i]? = some (some d)) (r : RepE K H ρ σ) (t : Tp K H H') (f : ∀ v, Rep K H d v → Rep K H' d' v) : RepE K H' (ρ.set i (some d')) σ := by
  refine ⟨by rw [← r.len]; simp, fun j x e => ?_⟩
  have hl : i < ρ.length := (List.getElem?_eq_some_iff.mp hi).1
  by_cases hj : i = j
  · subst hj
    rw [List.getElem?_set_self hl] at e
    cases e
    obtain ⟨v, h1, h2⟩ := r.at' i d hi
    exact ⟨v, h1, f v h2⟩
  · rw [List.getElem?_set_ne hj] at e
    obtain ⟨v, h1, h2⟩ := r.at' j x e
    exact ⟨v, h1, h2.mono t⟩
theorem as_fzset {i : Nat} {x : Str} (hi : X.N[i]? = some x) (h : AS X st (aAsg te (agName i))) : AS X st (aAsg (aFz te) (agName i)) :=
  ⟨fun pins s σ H D' I h' => by
    obtain ⟨ρ, M, D, hr, hv, q, k⟩ := h'
    have hl : i < ρ.length := by
      rw [hr.len, I.len]
      exact (List.getElem?_eq_some_iff.mp hi).1
    refine (ps_frz h).run pins s σ H D' I ⟨ρ, M, { D with nx := fun ρ' M' => match ρ'[i]? with | some (some d) => fzK d M' fun d' M2 => D.nx (ρ'.set i (some d')) M2 | _ => False }, hr, hv, ?_, ?_, k.rt, k.bk, k.ct⟩
    · have q' : te ρ M fun d M1 => fzK d M1 fun d' M2 => D.nx (ρ.set i (some d')) M2 := q
      have e : (fun d M1 => match (ρ.set i (some d))[i]? with | some (some d2) => fzK d2 M1 fun d' M2 => D.nx ((ρ.set i (some d)).set i (some d')) M2 | _ => False) = fun d M1 => fzK d M1 fun d' M2 => D.nx (ρ.set i (some d')) M2 := by
        funext d M1
        rw [List.getElem?_set_self hl]
        simp only [List.set_set]
      show te ρ M (fun d M1 => match (ρ.set i (some d))[i]? with | some (some d2) => fzK d2 M1 fun d' M2 => D.nx ((ρ.set i (some d)).set i (some d')) M2 | _ => False)
      rw [e]; exact q'
    · rintro σ1 H1 ρ1 M1 t1 r1 v1 q1
      replace q1 : (match ρ1[i]? with | some (some d) => fzK d M1 fun d' M2 => D.nx (ρ1.set i (some d')) M2 | _ => False) := q1
      split at q1
      · next d hd =>
        rcases fzK_val q1 with ⟨a, xs, M', rfl, e1, h0, s, q2⟩ | q2
        · obtain ⟨vs, h1, h2⟩ := view_lst v1 e1
          have hs := v1.soft e1
          exact .inr ⟨a, vs, h1, fun o => k.nx _ _ _ M' (t1.trans (Tp.put hs)) (repE_swap hd r1 (Tp.put hs) fun v rv => by rw [rep_ref_inv rv]; exact fz_rep hs h2) (fz_view v1 hs h0 s) q2⟩
        · exact .inl (k.nx _ _ _ _ t1 (repE_swap hd r1 (Tp.refl H1) fun v rv => rv) v1 q2)
      · exact q1.elim⟩
theorem lcFk_opt {keep : Ms → Prop} {tg : Tg} {own : List Nat} {tt : RT} {ρ : Env'} {Q : DK} {M : Ms} {ds : List Dv} (g : Nat → Option Dv) (hk : ∀ M', Sub M M' → keep M') (hl : ds.length ≤ sizeLine)
    (ht : ∀ i d, ds[i]? = some d → ∀ (M' : Ms) (N : Option Dv → Ms → Prop), Sub M M' → N (g i) M' → ∃ ρ', Tg.put tg d (wipeA ρ own) M' = some ρ' ∧ tt ρ' M' fun b M2 => onIf b (te ρ' M2 fun y M3 => N (some y) M3) (N none M2))
    (q : Q (.rol ((List.range ds.length).filterMap g)) M) : ∀ D, M D = none → lcW keep tg own tt te ρ D (fun M' => fzK (.ref D) M' Q) ds (mup M D (.lst [])) := fun D hD => by
  have len : ∀ i, ((List.range i).filterMap g).length ≤ i := fun i => by
    have := List.length_filterMap_le g (List.range i)
    simpa using this
  refine lcW_inv (fun i M' => M' = mup M D (.lst ((List.range i).filterMap g))) rfl (fun i M' _ e => by subst e; exact hk _ (Sub.new hD)) (fun i d M' hd e => ?_) fun M' e => ?_
  · subst e
    have hi := (List.getElem?_eq_some_iff.mp hd).1
    obtain ⟨ρ', h1, h2⟩ := ht i d hd (mup M D (.lst ((List.range i).filterMap g))) (fun o M3 => match o with
      | some y => ∃ acc, M3 D = some (.lst acc) ∧ acc.length < sizeLine ∧ wkM (fun M' => M' = mup M D (.lst ((List.range (i + 1)).filterMap g))) (mup M3 D (.lst (acc ++ [y])))
      | none => wkM (fun M' => M' = mup M D (.lst ((List.range (i + 1)).filterMap g))) M3) (Sub.new hD) (by
        cases e : g i with
        | some y =>
          refine ⟨_, mup_same, ?_, _, Sub.refl _, ?_⟩
          · have := len i; omega
          · rw [mup_mup, List.range_succ, List.filterMap_append]
            simp [e]
        | none =>
          refine ⟨_, Sub.refl _, ?_⟩
          rw [List.range_succ, List.filterMap_append]
          simp [e])
    exact ⟨ρ', h1, h2⟩
  · subst e
    refine onS_of (a := (List.range ds.length).filterMap g) (by rw [mup_same]; rfl) ⟨M, hD, Sub.new hD, q⟩
theorem lcFk {keep : Ms → Prop} {tg : Tg} {own : List Nat} {ρ : Env'} {Q : DK} {M : Ms} {ds : List Dv} (f : Nat → Dv) (hk : ∀ M', Sub M M' → keep M') (hl : ds.length ≤ sizeLine)
    (ht : ∀ i d, ds[i]? = some d → ∀ (M' : Ms) (N : Dv → Ms → Prop), Sub M M' → N (f i) M' → ∃ ρ', Tg.put tg d (wipeA ρ own) M' = some ρ' ∧ te ρ' M' N)
    (q : Q (.rol ((List.range ds.length).map f)) M) : ∀ D, M D = none → lcW keep tg own aYes te ρ D (fun M' => fzK (.ref D) M' Q) ds (mup M D (.lst [])) :=
  lcFk_opt (fun i => some (f i)) hk hl (fun i d hd M' N hs hn => by
    obtain ⟨ρ', h1, h2⟩ := ht i d hd M' (fun y M3 => N (some y) M3) hs hn
    exact ⟨ρ', h1, h2⟩) (by rw [List.filterMap_eq_map']; exact q)
theorem lcF_opt {keep : Ms → Prop} {tg : Tg} {own : List Nat} {tt : RT} {ρ : Env'} {Q : DK} {M : Ms} {ds : List Dv} (g : Nat → Option Dv) (hk : ∀ M, keep M) (hl : ds.length ≤ sizeLine)
    (ht : ∀ i d, ds[i]? = some d → ∀ (M' : Ms) (N : Option Dv → Ms → Prop), Sub M M' → N (g i) M' → ∃ ρ', Tg.put tg d (wipeA ρ own) M' = some ρ' ∧ tt ρ' M' fun b M2 => onIf b (te ρ' M2 fun y M3 => N (some y) M3) (N none M2))
    (q : Q (.rol ((List.range ds.length).filterMap g)) M) : ∀ D, M D = none → lcW keep tg own tt te ρ D (fun M' => fzK (.ref D) M' Q) ds (mup M D (.lst [])) :=
  lcFk_opt g (fun _ _ => hk _) hl ht q
theorem lcF {keep : Ms → Prop} {tg : Tg} {own : List Nat} {ρ : Env'} {Q : DK} {M : Ms} {ds : List Dv} (f : Nat → Dv) (hk : ∀ M, keep M) (hl : ds.length ≤ sizeLine)
    (ht : ∀ i d, ds[i]? = some d → ∀ (M' : Ms) (N : Dv → Ms → Prop), Sub M M' → N (f i) M' → ∃ ρ', Tg.put tg d (wipeA ρ own) M' = some ρ' ∧ te ρ' M' N)
    (q : Q (.rol ((List.range ds.length).map f)) M) : ∀ D, M D = none → lcW keep tg own aYes te ρ D (fun M' => fzK (.ref D) M' Q) ds (mup M D (.lst [])) :=
  lcF_opt (fun i => some (f i)) hk hl (fun i d hd M' N hs hn => by
    obtain ⟨ρ', h1, h2⟩ := ht i d hd M' (fun y M3 => N (some y) M3) hs hn
    exact ⟨ρ', h1, h2⟩) (by rw [List.filterMap_eq_map']; exact q)
end
end HC
set_option maxHeartbeats 1000000
namespace HC
open PySem L2 PyProof.Rows
section
variable {X : Cx} {a b e : Expr} {ta tb te : RE} {pos p pos2 p2 : Pos} {K : PySem.W.Frag}
theorem reps_range {H : Hp} {lo hi : Int} : Reps K H (rangeA lo (hi - lo).toNat) (rgV lo hi) := by
  have h := Reps.of_ints (K := K) (H := H) ((List.range (hi - lo).toNat).map fun (i : Nat) => lo + (i : Int))
  simpa [rangeA, rgV, List.map_map, Function.comp_def] using h
def RgA (a b : Int) : Prop := -4611686018427387904 ≤ a ∧ a < 4611686018427387904 ∧ -4611686018427387904 ≤ b ∧ b < 4611686018427387904 ∧ b - a ≤ 16777216
theorem RgA.ok {a b : Int} (h : RgA a b) : RgOk a b := by
  obtain ⟨h1, h2, h3, h4, h5⟩ := h
  have e1 : (2 : Int) ^ 62 = 4611686018427387904 := by decide
  have e2 : (2 : Nat) ^ 24 = 16777216 := by decide
  refine ⟨?_, ?_, ?_, ?_, ?_⟩
  · rw [e1]; exact h1
  · rw [e1]; exact h2
  · rw [e1]; exact h3
  · rw [e1]; exact h4
  · rw [e2]; omega
def aLstR1 (ta : RE) : RE := fun ρ M Q => ta ρ M fun d M1 => onI d fun n => (-4611686018427387904 ≤ n ∧ n ≤ 16777216) ∧ ∀ q, M1 q = none → Q (.ref q) (mup M1 q (.lst (rangeA 0 n.toNat)))
def aLstR2 (ta tb : RE) : RE := fun ρ M Q => ta ρ M fun d M1 => tb ρ M1 fun f M2 => onI2 d f fun i j => (-4611686018427387904 ≤ i ∧ i < 4611686018427387904 ∧ -4611686018427387904 ≤ j ∧ j < 4611686018427387904 ∧ j - i ≤ 16777216) ∧ ∀ q, M2 q = none → Q (.ref q) (mup M2 q (.lst (rangeA i (j - i).toNat)))
theorem ae_listR1 (hc : X.calm = true) (hm : X.mg "list" = none) (hr : X.mg "range" = none) (ha : AE X a ta) (hg : Gl X "list" := by rfl) (hg2 : Gl X "range" := by rfl) (na : starEach [a] X.env = (false, eval a X.env) :: starEach [] X.env := by rfl)
    (nb : starEach [.Call (.Name "range" p2) [a] [] pos2] X.env = (false, eval (.Call (.Name "range" p2) [a] [] pos2) X.env) :: starEach [] X.env := by rfl) :
    AE X (.Call (.Name "list" p) [.Call (.Name "range" p2) [a] [] pos2] [] pos) (aLstR1 ta) :=
  pe_imp (pe_listRg hc hg hm (prg_1 hg2 hr ha na) nb) fun σ H Q' ⟨ρ, M, Q, hr, hv, q, k⟩ => seqE hr hv q fun v H1 d M1 t1 r1 v1 q1 => by
    obtain ⟨n, e, ⟨h1, h2⟩, q2⟩ := onI_ex q1
    subst e
    refine ⟨n, rep_int_inv r1, RgA.ok ⟨by omega, by omega, h1, by omega, by omega⟩, ?_⟩
    have r := reps_range (K := X.K) (H := H1) (lo := 0) (hi := n)
    rw [Int.sub_zero] at r
    exact end_lst r v1 q2 (k.up t1)
theorem ae_listR2 (hc : X.calm = true) (hm : X.mg "list" = none) (hr : X.mg "range" = none) (ha : AE X a ta) (hb : AE X b tb) (hg : Gl X "list" := by rfl) (hg2 : Gl X "range" := by rfl) (na : starEach [a, b] X.env = (false, eval a X.env) :: starEach [b] X.env := by rfl)
    (nc : starEach [b] X.env = (false, eval b X.env) :: starEach [] X.env := by rfl) (hp : (backTo pos2 (starEach [b] X.env)).any (·.1) = false := by rfl)
    (nb : starEach [.Call (.Name "range" p2) [a, b] [] pos2] X.env = (false, eval (.Call (.Name "range" p2) [a, b] [] pos2) X.env) :: starEach [] X.env := by rfl) :
    AE X (.Call (.Name "list" p) [.Call (.Name "range" p2) [a, b] [] pos2] [] pos) (aLstR2 ta tb) :=
  pe_imp (pe_listRg hc hg hm (prg_2 hg2 hr ha hb na nc hp) nb) fun σ H Q' ⟨ρ, M, Q, hr, hv, q, k⟩ => seqE hr hv q fun v H1 d M1 t1 r1 v1 q1 => seqE (hr.mono t1) v1 q1 fun w H2 f M2 t2 r2 v2 q2 => by
    obtain ⟨i, j, e, e', ⟨h1, h2, h3, h4, h5⟩, q3⟩ := onI2_ex q2
    subst e e'
    exact ⟨i, j, rep_int_inv (r1.mono t2), rep_int_inv r2, RgA.ok ⟨h1, h2, h3, h4, h5⟩, end_lst reps_range v2 q3 (k.up (t1.trans t2))⟩
end
section
variable {X : Cx} {e : Expr} {te : RE} {K : PySem.W.Frag}
end
section
variable {tt : RT} {te : RE}
theorem map_idx {ds : List Dv} {β : Type} (f : Dv → β) : (List.range ds.length).map (fun i => f (ds.getD i .non)) = ds.map f := by
  refine List.ext_getElem (by simp) fun i h1 h2 => ?_
  simp at h1 h2
  simp [h1, List.getD]
theorem lcM {keep : Ms → Prop} {tg : Tg} {own : List Nat} {ρ : Env'} {Q : DK} {M : Ms} {ds : List Dv} (f : Dv → Dv) (hk : ∀ M, keep M) (hl : ds.length ≤ sizeLine)
    (ht : ∀ d ∈ ds, ∀ (M' : Ms) (N : Dv → Ms → Prop), Sub M M' → N (f d) M' → ∃ ρ', Tg.put tg d (wipeA ρ own) M' = some ρ' ∧ te ρ' M' N)
    (q : Q (.rol (ds.map f)) M) : ∀ D, M D = none → lcW keep tg own aYes te ρ D (fun M' => fzK (.ref D) M' Q) ds (mup M D (.lst [])) :=
  lcF (fun i => f (ds.getD i .non)) hk hl (fun i d hd M' N hs hn => by
    have e : ds.getD i .non = d := by simp [List.getD, hd]
    rw [e] at hn
    exact ht d (List.mem_of_getElem? hd) M' N hs hn) (by rw [map_idx]; exact q)
end
def aNever : RS := fun _ _ _ => False
theorem as_never {X : Cx} {st : Stmt} : AS X st aNever := ps_imp ps_never fun D σ H h => by
  obtain ⟨ρ, M, D, _, _, q, _⟩ := h
  exact q
def acMax : ARC := fun ds M Q => match ds with | [d] => ∃ ns : List Int, lstA d M = some (ns.map Dv.int) ∧ 0 < ns.length ∧ ∀ m, m ∈ ns → (∀ y, y ∈ ns → y ≤ m) → Q (.int m) M | _ => False
theorem abc_max {K : PySem.W.Frag} : AbC K (rMax K) acMax := by
  intro H M vs ds Q Q' r hv q k
  match ds, q with
  | [d], q =>
    obtain ⟨ns, h, h0, q⟩ := q
    obtain ⟨v, e, rd⟩ := reps1 r
    obtain ⟨a, ws, e1, s, z⟩ := lstA_ok rd hv h
    exact ⟨a, ns, by rw [e, e1], by rw [← z.ints]; exact s, h0, fun m h1 h2 => k _ _ _ _ (Tp.refl H) rep_int hv (q m h1 h2)⟩
theorem mdel_put {M : Ms} {q : Addr} {c : Cell} : mdel (mup M q c) q = mdel M q := by
  funext b
  unfold mdel
  by_cases h : b = q
  · rw [if_pos h, if_pos h]
  · rw [if_neg h, if_neg h, mup_ne h]
theorem grow_put {M M2 : Ms} {q : Addr} {c : Cell} (h : Sub M (mdel M2 q)) : Sub M (mdel (mup M2 q c) q) := by rw [mdel_put]; exact h
theorem grow_sub {M M2 : Ms} {q : Addr} (h : Sub M (mdel M2 q)) : Sub M M2 := h.trans mdel_sub
theorem grow_new {M : Ms} {q : Addr} {c : Cell} (h : M q = none) : Sub M (mdel (mup M q c) q) := mdel_of (Sub.new h) h
theorem dec_int {i j : Int} {inst : Decidable (Dv.int i = Dv.int j)} : @decide (Dv.int i = Dv.int j) inst = decide (i = j) := decide_eq_decide.mpr ⟨Dv.int.inj, fun h => by rw [h]⟩
theorem acAll_eq {α : Type} {xs : List α} {g : α → Bool} {M : Ms} : lstA (.rol (xs.map fun x => .bl (g x))) M = some ((xs.map g).map Dv.bl) := by simp [lstA, itemsA, List.map_map, Function.comp_def]
theorem all_map_id {α : Type} {xs : List α} {g : α → Bool} : (xs.map g).all id = xs.all g := by simp [List.all_map]
theorem any_map_id {α : Type} {xs : List α} {g : α → Bool} : (xs.map g).any id = xs.any g := by simp [List.any_map]
end HC
set_option maxHeartbeats 1000000
namespace HC
open PySem L2 PyProof.Rows
section
variable {X : Cx} {a b e : Expr} {ta tb te : RE} {pos p pos2 p2 : Pos} {K : PySem.W.Frag}
end
end HC
set_option maxHeartbeats 1000000
namespace HC
open PySem L2 PyProof.Rows
section
variable {X : Cx} {a b e o i : Expr} {ta tb te to ti : RE} {pos p pos2 p2 tpos : Pos} {K : PySem.W.Frag}
def rGetL : V → V → Hp → VK → Prop := fun o i H Q => ∃ p xs k x, o = .ref p ∧ i = .int k ∧ H p = some (.lst xs) ∧ 0 ≤ k ∧ xs[k.toNat]? = some x ∧ Q x H
theorem get_list : PGet X rGetL := by
  intro pins s σ H o i ov iv Q I ro ri h
  obtain ⟨p, xs, k, x, rfl, rfl, hp, h0, hx, q⟩ := h
  cases ro
  obtain ⟨t, rfl⟩ := ri
  obtain ⟨its, n, r, ho, hz⟩ := I.lst hp
  obtain ⟨u, hu, ru⟩ := Vals.get r hx
  have hl := r.length
  have hn := line63
  have hk := (List.getElem?_eq_some_iff.mp hx).1
  exact wpAny_getItem_list (items := its.toArray) ⟨_, ho, rfl, n, rfl⟩ h0 (by omega) (by simpa using hu) ⟨x, H, I, ru, q⟩
def aAugS (to ti te : RE) (f : Int → Int → Int) : RS := fun D ρ M => to ρ M fun x M1 => ti ρ M1 fun y M2 => match x with
  | .ref r => onI y fun k => 0 ≤ k ∧ onS (lstC (M2 r)) fun xs => onS xs[k.toNat]? fun d => te ρ M2 fun z M3 => onI2 d z fun m n => onS (lstC (M3 r)) fun ys => k.toNat < ys.length ∧ D.nx ρ (mup M3 r (.lst (ys.set k.toNat (.int (f m n)))))
  | _ => False
theorem ixN_pos {n : Nat} {k : Int} (h0 : 0 ≤ k) (h : k.toNat < n) : ixN n k = some k.toNat := by
  obtain ⟨j, rfl⟩ := Int.eq_ofNat_of_zero_le h0
  exact ixN_nat h
theorem augS_imp {f : Int → Int → Int} : ∀ D σ H, cS K (aAugS to ti te f) D σ H → tAugS (cE K to) (cE K ti) (cE K te) rGetL (ipI f) rSetL D σ H := fun D' σ H ⟨ρ, M, D, hr, hv, q, k⟩ =>
  seqE hr hv q fun x H1 dx M1 t1 r1 v1 q1 => seqE (hr.mono t1) v1 q1 fun y H2 dy M2 t2 r2 v2 q2 => by
    cases dx <;> first | exact q2.elim | skip
    case ref r =>
      obtain ⟨kk, e1, h0, q3⟩ := onI_ex q2
      subst e1
      obtain ⟨xs, hx, q4⟩ := onS_ex q3
      obtain ⟨d, hd, q5⟩ := onS_ex q4
      obtain ⟨vs, e2, z⟩ := view_lst v2 (lstC_eq hx)
      obtain ⟨v, hv1, rv⟩ := z.get hd
      have t12 := t1.trans t2
      refine ⟨r, vs, kk, v, rep_ref_inv (r1.mono t2), rep_int_inv r2, e2, h0, hv1, ?_⟩
      refine seqE (hr.mono t12) v2 q5 fun w H3 dw M3 t3 r3 v3 q6 => ?_
      obtain ⟨m, n, e3, e4, q7⟩ := onI2_ex q6
      subst e3 e4
      obtain ⟨ys, hy, hl, q8⟩ := onS_ex q7
      obtain ⟨ws, e5, z2⟩ := view_lst v3 (lstC_eq hy)
      have t13 := t12.trans t3
      refine ⟨m, n, rep_int_inv (rv.mono t3), rep_int_inv r3, ?_⟩
      refine ⟨r, ws, kk, kk.toNat, rep_ref_inv ((r1.mono t2).mono t3), rep_int_inv (r2.mono t3), e5, by rw [← z2.length]; exact ixN_pos h0 hl, ?_⟩
      have tp := Tp.put (K := K) (H := H3) (a := r) (o := .lst (ws.set kk.toNat (.int (f m n)))) (v3.soft (lstC_eq hy))
      exact k.nx _ _ _ _ (t13.trans tp) (hr.mono (t13.trans tp)) (v3.put (c := .lst (ys.set kk.toNat (.int (f m n)))) (v3.soft (lstC_eq hy)) ⟨ws.set kk.toNat (.int (f m n)), upd_same, (z2.set kk.toNat (d := .int (f m n)) (v := .int (f m n)) rep_int).mono tp⟩) q8
theorem as_augS_add (ho : AE X o to) (hi : AE X i ti) (he : AE X e te) (ha : ∀ ov iv new, augStore i ov iv new = (do holding [new, ov, iv] (setItem ov iv new); release [new, ov, iv] []; pure .next) := by intros; rfl) : AS X (.AugAssign (.Subscript o i tpos) .Add e pos) (aAugS to ti te fun i j => i + j) :=
  ps_imp (ps_augS ho hi get_list he ip_add set_list ha) augS_imp
end
end HC
namespace HC
open PySem L2 PyProof.Rows
section
variable {X : Cx} {a b c e o : Expr} {es : List Expr} {ta tb tc te to tk : RE} {t : RA} {pos p pos2 p2 tpos : Pos} {K : PySem.W.Frag}
theorem eqV_key (k j : Key) : eqV (kV k) (kV j) = decide (k = j) := by
  rcases k with k | k <;> rcases j with j | j
  · show (k == j) = _
    by_cases h : k = j
    · subst h; simp
    · simp [h]
  · show false = _
    simp
  · show false = _
    simp
  · show (k == j) = _
    by_cases h : k = j
    · subst h; simp
    · have : (k == j) = false := by simpa using h
      rw [this]
      simp [h]
def memK (k : Key) (ks : List Key) : Bool := ks.any fun j => decide (j = k)
theorem inV_keys (k : Key) (ks : List Key) : inV (kV k) (ks.map kV) = memK k ks := by
  unfold inV memK
  rw [List.any_map]
  congr 1
  funext j
  exact eqV_key j k
theorem flat_keys (ks : List Key) : (ks.map kV).all flatV = true := by
  rw [List.all_eq_true]
  intro v hv
  obtain ⟨k, _, rfl⟩ := List.mem_map.mp hv
  cases k <;> rfl
theorem flat_key (k : Key) : flatV (kV k) = true := by cases k <;> rfl
def rDIn (neg : Bool) : R2 := fun x y H Q => ∃ a o, y = .ref a ∧ DGet H a x o ∧ Q (.bl (if neg then !o.isSome else o.isSome)) H
theorem op_dIn (hu : X.A.units + 1 < cLine) : OpR X (compareOp .In) (rDIn false) := by
  intro pins s σ H x y v u Q I rx ry h
  obtain ⟨a, o, rfl, g, q⟩ := h
  cases ry
  exact d_in hu I g rx fun s' I' => ⟨.bl _, H, I', rfl, q⟩
theorem op_dNotIn (hu : X.A.units + 1 < cLine) : OpR X (compareOp .NotIn) (rDIn true) := by
  intro pins s σ H x y v u Q I rx ry h
  obtain ⟨a, o, rfl, g, q⟩ := h
  cases ry
  exact d_notIn hu I g rx fun s' I' => ⟨.bl _, H, I', rfl, q⟩
def negB (neg b : Bool) : Bool := if neg then !b else b
def aInKB (neg : Bool) : AR2 := fun x y M Q => onS (keyD x) fun k => match y with
  | .ref a => match M a with
    | some (.lst xs) => onS (keysD xs) fun ks => Q (.bl (negB neg (memK k ks))) M
    | some (.dic kvs) => Q (.bl (negB neg (getK kvs k).isSome)) M
    | _ => False
  | .rol xs => onS (keysD xs) fun ks => Q (.bl (negB neg (memK k ks))) M
  | .tup xs => onS (keysD xs) fun ks => Q (.bl (negB neg (memK k ks))) M
  | _ => False
def aInK : AR2 := aInKB false
def aNotInK : AR2 := aInKB true
theorem ab_inK {neg : Bool} : Ab2 K (fun x y H Q => rIn K neg x y H Q ∨ rDIn neg x y H Q) (aInKB neg) := by
  intro H M x y dx dy Q Q' rx ry hv q k
  obtain ⟨kk, e, q0⟩ := onS_ex q
  clear q
  have ex := keyD_ok rx e
  subst ex
  have fin : ∀ ks : List Key, Q (.bl (negB neg (memK kk ks))) M → Q' (.bl (if neg then !inV (kV kk) (ks.map kV) else inV (kV kk) (ks.map kV))) H := fun ks q => by
    rw [inV_keys]
    exact k _ _ _ _ (Tp.refl H) rep_bl hv q
  cases dy <;> first | exact q0.elim | skip
  case ref r =>
    have ey := rep_ref_inv ry
    subst ey
    simp only [] at q0
    split at q0
    · next xs e1 =>
      obtain ⟨ks, e2, q⟩ := onS_ex q0
      obtain ⟨vs, e3, r1⟩ := view_lst hv e1
      have := keysD_ok r1 e2
      subst this
      exact .inl ⟨r, _, rfl, .inl (SqL.of e3), flat_key kk, flat_keys ks, fin ks q⟩
    · next kvs e1 =>
      obtain ⟨vs, e2, rr⟩ := (show ∃ kvs', H r = some (.dK kvs') ∧ Paired (fun (p : Key × Dv) (q : Key × V) => p.1 = q.1 ∧ Rep K H p.2 q.2) kvs kvs' from hv r _ e1)
      refine .inr ⟨r, _, rfl, DGet.k e2, ?_⟩
      have es : (valV vs kk).isSome = (getK kvs kk).isSome := by
        rcases getK_ok (k := kk) rr with ⟨h1, h2⟩ | ⟨d', v, h1, h2, _⟩
        · rw [h1, h2]; rfl
        · rw [h1, h2]; rfl
      rw [es]
      exact k _ _ _ _ (Tp.refl H) rep_bl hv q0
    · exact q0.elim
  case rol xs =>
    obtain ⟨ks, e2, q⟩ := onS_ex q0
    obtain ⟨a, vs, e1, s1, r1⟩ := rep_rol_inv ry
    have := keysD_ok r1 e2
    subst this
    exact .inl ⟨a, _, e1, .inl s1.l, flat_key kk, flat_keys ks, fin ks q⟩
  case tup xs =>
    obtain ⟨ks, e2, q⟩ := onS_ex q0
    obtain ⟨a, vs, e1, s1, r1⟩ := rep_tup_inv ry
    have := keysD_ok r1 e2
    subst this
    exact .inl ⟨a, _, e1, .inr s1, flat_key kk, flat_keys ks, fin ks q⟩
theorem op_inK (hu : X.A.units + 1 < cLine) : OpR X (compareOp .In) (fun x y H Q => rIn X.K false x y H Q ∨ rDIn false x y H Q) := opr_or op_in_seq (op_dIn hu)
theorem op_notInK (hu : X.A.units + 1 < cLine) : OpR X (compareOp .NotIn) (fun x y H Q => rIn X.K true x y H Q ∨ rDIn true x y H Q) := opr_or op_notIn_seq (op_dNotIn hu)
theorem ae_inK (hu : X.A.units + 1 < cLine) (ha : AE X a ta) (hb : AE X b tb) (hm : behindInMarks .In b = false := by with_unfolding_all rfl) : AE X (.Compare a [.In] [b] pos) (aOp aInK ta tb) := ae_cmp (op_inK hu) ab_inK ha hb hm
theorem at_inK (hu : X.A.units + 1 < cLine) (ha : AE X a ta) (hb : AE X b tb) (hm : behindInMarks .In b = false := by with_unfolding_all rfl) : AT X (.Compare a [.In] [b] pos) (aB (aOp aInK ta tb)) := at_cmp (op_inK hu) ab_inK ha hb hm
theorem at_notinK (hu : X.A.units + 1 < cLine) (ha : AE X a ta) (hb : AE X b tb) (hm : behindInMarks .NotIn b = false := by with_unfolding_all rfl) : AT X (.Compare a [.NotIn] [b] pos) (aB (aOp aNotInK ta tb)) := at_cmp (op_notInK hu) ab_inK ha hb hm
end
end HC
namespace HC
open PySem L2 PyProof.Rows
section
variable {X : Cx} {a b c e o key : Expr} {es : List Expr} {ta tb tc te to tk : RE} {t : RA} {pos p pos2 p2 tpos xp yp sp ap cp rp : Pos} {K : PySem.W.Frag} {d : Addr} {x y : Str}
structure TabK (K : PySem.W.Frag) (w : World) (mg : Str → Option Value) (x : Str) (d : Addr) : Prop where
  g : mg x = some (.ref d)
  kd : ∃ es n, KDict K w d es n
end
end HC
set_option maxHeartbeats 1000000
namespace HC
open PySem PySem.Spec L2 PyProof.Rows
theorem fun_ofD {K : PySem.W.Frag} {x q : Str} {st : Stmt} {f : Addr} {fd : FuncData} (F : FunD K x q (defArgs st) (defBody st) (defScope st) [] [] f fd) : Fun K x q st f fd := by
  obtain ⟨oc, od, dV, kV, doc, pm, an, cdv, ct, osl, e, lk, hcd, hd, _⟩ := F.ex
  rcases hd with ⟨_, rfl⟩ | ⟨h, _⟩
  · exact ⟨⟨oc, od, kV, doc, pm, an, cdv, ct, osl, e, lk, hcd⟩, F.kp⟩
  · exact absurd rfl h
section
variable {fa : List He.Fa} {fn : List He.DefD} {ts : List He.Tab} {ex : List (PySem.W.Frag → Bool)} {w : World} {K : PySem.W.Frag} {h : Heap} {mg : Str → Option Value}
theorem SaysY.t (c : SaysY fa fn ts ex w K) : He.SaysT fa fn ts w K := congrArg (fun z : AlY => z.1) c
theorem SaysY.at_ (c : SaysY fa fn ts ex w K) (i : Nat) {f : PySem.W.Frag → Bool} (e : ex[i]? = some f := by rfl) : f K = true := by
  have c1 : (ex.all fun f => f K) = true := congrArg (fun z : AlY => z.2) c
  exact List.all_eq_true.mp c1 f (List.mem_of_getElem? e)
theorem SaysY.fact (c : SaysY fa fn ts ex w K) (i : Nat) {f : He.Fa} (e : fa[i]? = some f := by rfl) : f.ok K = true := c.t.d.fact i e
theorem SaysY.fn_ (c : SaysY fa fn ts ex w K) (i : Nat) {x : Str} {st : Stmt} (e : fn[i]? = some (ddF x st) := by rfl) : ∃ fd, Fun K x x st (He.ga K x) fd := by
  obtain ⟨fd, F⟩ := c.t.d.def_ i e
  exact ⟨fd, fun_ofD F⟩
theorem SaysY.law_ (c : SaysY fa fn ts ex w K) (i : Nat) {x : Str} {st : Stmt} (e : fn[i]? = some (ddF x st) := by rfl) : ∃ fd, FunD K x x (defArgs st) (defBody st) (defScope st) [] [] (He.ga K x) fd := c.t.d.def_ i e
theorem SaysY.me_ (c : SaysY fa fn ts ex w K) (i : Nat) {x m q : Str} {st : Stmt} (e : fn[i]? = some (ddM x m q st) := by rfl) : ∃ fd, Fun K m q st (He.ma K (He.ga K x) m) fd := by
  obtain ⟨fd, F⟩ := c.t.d.def_ i e
  exact ⟨fd, fun_ofD F⟩
theorem SaysY.glo (c : SaysY fa fn ts ex w K) (X : K.In h) (G : h.Ns mainGlobals mg) (i : Nat) {x : Str} (e : fa[i]? = some (.glo x) := by rfl) : mg x = some (.ref (He.ga K x)) := He.glo_ok X G (c.fact i e)
theorem SaysY.gn (c : SaysY fa fn ts ex w K) (i : Nat) {x : Str} (e : fa[i]? = some (.glo x) := by rfl) : PySem.W.nsIn K mainGlobals x = some (some (.ref (He.ga K x))) := He.eqO_ok (c.fact i e)
theorem SaysY.free (c : SaysY fa fn ts ex w K) (X : K.In h) (G : h.Ns mainGlobals mg) (i : Nat) {x : Str} (e : fa[i]? = some (.free x) := by rfl) : mg x = none := He.free_ok X G (c.fact i e)
theorem SaysY.int (c : SaysY fa fn ts ex w K) (X : K.In h) (G : h.Ns mainGlobals mg) (i : Nat) {x : Str} {k : Int} (e : fa[i]? = some (.int x k) := by rfl) : ∃ t, mg x = some (.int k t) := He.int_ok X G (c.fact i e)
theorem SaysY.str (c : SaysY fa fn ts ex w K) (X : K.In h) (G : h.Ns mainGlobals mg) (i : Nat) {x z : Str} (e : fa[i]? = some (.str x z) := by rfl) : ∃ t, mg x = some (.str z t) := He.str_ok X G (c.fact i e)
end
end HC
set_option maxHeartbeats 1000000
namespace HC
open PySem PySem.Spec L2 PyProof.Rows
structure KlF (K : PySem.W.Frag) (c : Str) (C : Addr) : Prop where
  na : PySem.W.nsIn K mainGlobals c = some (some (.ref C))
  cl : Cls K C
def objC (c : Str) : Option Cell → Option (List (Str × Dv))
  | some (.obj c' fs) => if c' = c then some fs else none
  | _ => none
theorem objC_l {c : Str} {o : Option Cell} {fs : List (Str × Dv)} (h : o = some (.obj c fs)) : objC c o = some fs := by
  subst h
  exact if_pos rfl
theorem objC_eq {c : Str} {o : Option Cell} {fs : List (Str × Dv)} (h : objC c o = some fs) : o = some (.obj c fs) := by
  cases o with
  | none => cases h
  | some x =>
    cases x with
    | obj c' gs =>
      have h : (if c' = c then some gs else none) = some fs := h
      by_cases q : c' = c
      · rw [if_pos q] at h
        cases h
        rw [q]
      · rw [if_neg q] at h
        cases h
    | lst _ => cases h
    | dic _ => cases h
    | dit _ => cases h
    | fdc _ => cases h
    | tab _ => cases h
    | cod _ => cases h
abbrev FP (K : PySem.W.Frag) (H : Hp) : List (Str × Dv) → List (Str × V) → Prop := Paired (fun (p : Str × Dv) (q : Str × V) => p.1 = q.1 ∧ Rep K H p.2 q.2)
def putFd (f : Str) (d : Dv) : List (Str × Dv) → List (Str × Dv)
  | [] => [(f, d)]
  | (g, e) :: fs => if g = f then (g, d) :: fs else (g, e) :: putFd f d fs
theorem fp_put {K : PySem.W.Frag} {H : Hp} {f : Str} {d : Dv} {v : V} (r : Rep K H d v) : ∀ {fs : List (Str × Dv)} {vs : List (Str × V)}, FP K H fs vs → FP K H (putFd f d fs) (putF f v vs)
  | _, _, .nil => .cons ⟨rfl, r⟩ .nil
  | (g, e) :: fs, (g2, u) :: vs, .cons ⟨e1, r1⟩ t => by
    have e1 : g = g2 := e1
    subst e1
    show FP K H (if g = f then (g, d) :: fs else (g, e) :: putFd f d fs) (if g = f then (g, v) :: vs else (g, u) :: putF f v vs)
    by_cases q : g = f
    · rw [if_pos q, if_pos q]
      exact .cons ⟨rfl, r⟩ t
    · rw [if_neg q, if_neg q]
      exact .cons ⟨rfl, r1⟩ (fp_put r t)
theorem fp_look {K : PySem.W.Frag} {H : Hp} {f : Str} {d : Dv} : ∀ {fs : List (Str × Dv)} {vs : List (Str × V)}, FP K H fs vs → fs.lookup f = some d → ∃ v, vs.lookup f = some v ∧ Rep K H d v
  | _, _, .nil, h => by cases h
  | (g, e) :: fs, (g2, u) :: vs, .cons ⟨e1, r1⟩ t, h => by
    have e1 : g = g2 := e1
    subst e1
    rw [List.lookup_cons] at h ⊢
    cases q : f == g with
    | true =>
      rw [q] at h
      cases h
      exact ⟨u, rfl, r1⟩
    | false =>
      rw [q] at h
      exact fp_look t h
theorem fp_none {K : PySem.W.Frag} {H : Hp} {f : Str} : ∀ {fs : List (Str × Dv)} {vs : List (Str × V)}, FP K H fs vs → fs.lookup f = none → vs.lookup f = none
  | _, _, .nil, _ => rfl
  | (g, e) :: fs, (g2, u) :: vs, .cons ⟨e1, r1⟩ t, h => by
    have e1 : g = g2 := e1
    subst e1
    rw [List.lookup_cons] at h ⊢
    cases q : f == g with
    | true => rw [q] at h; cases h
    | false =>
      rw [q] at h
      exact fp_none t h
theorem view_obj {K : PySem.W.Frag} {M : Ms} {H : Hp} {a C : Addr} {c : Str} {fs : List (Str × Dv)} (v : View K M H) (h : M a = some (.obj c fs)) (F : KlF K c C) : ∃ dx vs, H a = some (.ins C dx vs) ∧ FP K H fs vs := by
  obtain ⟨C', dx, vs, hn, e, z⟩ := v a _ h
  rw [F.na] at hn
  cases hn
  exact ⟨dx, vs, e, z⟩
def aFld (c f : Str) (te : RE) : RE := fun ρ M Q => te ρ M fun d M1 => match d with
  | .ref a => onS (objC c (M1 a)) fun fs => onS (fs.lookup f) fun v => Q v M1
  | _ => False
section
variable {X : Cx} {e o : Expr} {es : List Expr} {f c m : Str} {pos apos p : Pos} {te to : RE} {t : RA} {C : Addr}
theorem ae_fld (F : KlF X.K c C) (n : NoAttr X.K C f) (h : AE X e te) (hb : attributeBase e f X.env (eval e X.env) = eval e X.env := by rfl) : AE X (.Attribute e f pos) (aFld c f te) :=
  pe_imp (pe_fld h hb) fun σ H Q' ⟨ρ, M, Q, hr, hv, q, k⟩ => seqE hr hv q fun v H1 d M1 t1 r1 v1 q1 => by
    cases d <;> first | exact q1.elim | skip
    case ref a =>
      obtain ⟨fs, h1, q1⟩ := onS_ex q1
      obtain ⟨dv, h2, q1⟩ := onS_ex q1
      obtain ⟨dx, vs, e1, z⟩ := view_obj v1 (objC_eq h1) F
      obtain ⟨u, e2, ru⟩ := fp_look z h2
      exact ⟨a, C, dx, vs, u, rep_ref_inv r1, e1, F.cl, n, e2, k _ _ _ _ t1 ru v1 q1⟩
def asFld (c f : Str) (to tv : RE) : RS := fun D ρ M => tv ρ M fun v M1 => to ρ M1 fun d M2 => match d with
  | .ref a => onS (objC c (M2 a)) fun fs => fs.length < 1000 ∧ D.nx ρ (mup M2 a (.obj c (putFd f v fs)))
  | _ => False
theorem as_fld {value : Expr} {tv : RE} (F : KlF X.K c C) (n : NoAttr X.K C f) (h : AE X o to) (hv : AE X value tv) (hs : swapsWith value (some (.Attribute o f apos)) pos.line X.env = pure false := by rfl) : AS X (.Assign [.Attribute o f apos] value pos) (asFld c f to tv) :=
  ps_imp (ps_fld h hv hs) fun D' σ H ⟨ρ, M, D, hr, hv, q, k⟩ => seqE hr hv q fun y H1 dy M1 t1 r1 v1 q1 => seqE (hr.mono t1) v1 q1 fun x H2 dx2 M2 t2 r2 v2 q2 => by
    cases dx2 <;> first | exact q2.elim | skip
    case ref a =>
      obtain ⟨fs, h1, hz, q2⟩ := onS_ex q2
      have ho := objC_eq h1
      obtain ⟨dx, vs, e1, z⟩ := view_obj v2 ho F
      have sf := v2.soft ho
      have t3 : Tp X.K H2 (upd H2 a (.ins C dx (putF f y vs))) := Tp.put sf
      refine ⟨a, C, dx, vs, rep_ref_inv r2, e1, F.cl, n, by rw [← Paired.length z]; exact hz, ?_⟩
      exact k.nx _ _ _ _ ((t1.trans t2).trans t3) (hr.mono ((t1.trans t2).trans t3)) (v2.put (c := .obj c (putFd f dy fs)) sf ⟨C, dx, _, F.na, upd_same, Paired.mapP (fp_put (r1.mono t2) z) fun _ _ w => ⟨w.1, w.2.mono t3⟩⟩) q2
def aMeth (c m : Str) (asp : ASp) (to : RE) (t : RA) : RE := fun ρ M Q => to ρ M fun d M1 => match d with
  | .ref a => onS (objC c (M1 a)) fun fs => fs.lookup m = none ∧ t ρ M1 fun ds M2 => asp (.ref a :: ds) M2 Q
  | _ => False
variable {fa : Addr} {fd : FuncData} {ps : List Str} {asp : ASp} {k : Nat}
theorem meth_imp {K : PySem.W.Frag} (F : KlF K c C) : ∀ σ H Q, cE K (aMeth c m asp to t) σ H Q → tMeth C m (cSp K asp) [] E0 (cE K to) (cA K t) σ H Q := fun σ H Q' ⟨ρ, M, Q, hr, hv, q, k⟩ => seqE hr hv q fun x H1 d M1 t1 r1 v1 q1 => by
  cases d <;> first | exact q1.elim | skip
  case ref a =>
    obtain ⟨fs, h1, hn, q1⟩ := onS_ex q1
    obtain ⟨dx, vs, e1, z⟩ := view_obj v1 (objC_eq h1) F
    refine ⟨a, dx, vs, rep_ref_inv r1, e1, fp_none z hn, seqA (hr.mono t1) v1 q1 fun us H2 ds M2 t2 r2 v2 q2 => ?_⟩
    exact ⟨.ref a :: ds, M2, Q, by rw [List.append_nil]; exact Reps.cons (r1.mono t2) r2, v2, q2, (k.up t1).up t2⟩
theorem ae_meth (F : KlF X.K c C) (hm : Meth X.K C m fa) (G : FnA X.prog X.w X.K X.mg X.base k fa fd ps asp) (hr : Room k X.A) (hb : Binds X.K fd ps []) {pl : Sem Bool} (ho : AE X o to) (ha : AA X (e :: es) t)
    (he : starEach (e :: es) X.env = (false, eval e X.env) :: starEach es X.env := by rfl) (hpl : (backTo pos (starEach es X.env)).any (·.1) = false := by rfl)
    (hev : eval (.Call (.Attribute o m apos) (e :: es) [] pos) X.env = (do
      let ov ← eval o X.env
      standAt apos.atName
      let __x ← holding [ov] (getMethod ov m pl)
      match __x with
        | (f, first) => callWith pos f first (backTo pos (starEach (e :: es) X.env)) (backToKw pos (keywordEach [] X.env))) := by rfl) : AE X (.Call (.Attribute o m apos) (e :: es) [] pos) (aMeth c m asp to t) :=
  pe_imp (pe_meth ho F.cl hm G hr hb .nil pass0 ha he hpl hev) (meth_imp F)
theorem ae_meth0 (F : KlF X.K c C) (hm : Meth X.K C m fa) (G : FnA X.prog X.w X.K X.mg X.base k fa fd ps asp) (hr : Room k X.A) (hb : Binds X.K fd ps []) {pl : Sem Bool} (ho : AE X o to)
    (hev : eval (.Call (.Attribute o m apos) [] [] pos) X.env = (do
      let ov ← eval o X.env
      standAt apos.atName
      let __x ← holding [ov] (getMethod ov m pl)
      match __x with
        | (f, first) => callWith pos f first (backTo pos (starEach [] X.env)) (backToKw pos (keywordEach [] X.env))) := by rfl) : AE X (.Call (.Attribute o m apos) [] [] pos) (aMeth c m asp to aNil) :=
  pe_imp (pe_meth0 ho F.cl hm G hr hb .nil pass0 hev) fun σ H Q' ⟨ρ, M, Q, hr, hv, q, k⟩ => seqE hr hv q fun x H1 d M1 t1 r1 v1 q1 => by
    cases d <;> first | exact q1.elim | skip
    case ref a =>
      obtain ⟨fs, h1, hn, q1⟩ := onS_ex q1
      obtain ⟨dx, vs, e1, z⟩ := view_obj v1 (objC_eq h1) F
      exact ⟨a, dx, vs, rep_ref_inv r1, e1, fp_none z hn, [.ref a], M1, Q, Reps.cons r1 Reps.nil, v1, q1, k.up t1⟩
end
end HC
set_option maxHeartbeats 1000000
namespace HC
open PySem L2 PyProof.Rows
section
variable {X : Cx} {K : PySem.W.Frag}
def acSortI : ARC := fun ds M Q => match ds with
  | [d] => ∃ ns : List Int, lstA d M = some (ns.map Dv.int) ∧ ∀ ns' : List Int, ns'.Perm ns → ns'.Pairwise (· ≤ ·) → ∀ p, M p = none → Q (.ref p) (mup M p (.lst (ns'.map Dv.int)))
  | _ => False
theorem reps_ints {H : Hp} : ∀ ns : List Int, Reps K H (ns.map Dv.int) (ns.map V.int)
  | [] => .nil
  | n :: ns => .cons rep_int (reps_ints ns)
theorem abc_sortI : AbC K (rSortedI K) acSortI := by
  intro H M vs ds Q Q' r hv q k
  match ds, q with
  | [d], ⟨ns, h, q⟩ =>
    obtain ⟨v, e, rd⟩ := reps1 r
    obtain ⟨a, ws, e1, s, z⟩ := lstA_ok rd hv h
    rw [z.ints] at s
    exact ⟨a, ns, by rw [e, e1], s, fun ns' p hp hs hn => end_lst (reps_ints ns') hv (q ns' hp hs) k p hn⟩
end
end HC
namespace HC
open PySem L2 PyProof.Rows
section
variable {X : Cx} {K : PySem.W.Frag} {o e : Expr} {es : List Expr} {apos cpos tpos : Pos} {to te : RE} {t : RA}
end
end HC
namespace HC
open PySem L2 PyProof.Rows
section
variable {X : Cx} {K : PySem.W.Frag} {x : Str} {p : Pos}
end
end HC
set_option maxHeartbeats 1000000
namespace HC
open PySem PySem.Spec L2 PyProof.Rows
section
variable {prog : Program} {w : World} {A : Around} {E : Value → Shared → Prop} {s : Shared}
theorem collect_tupleA {l : Addr} {vs : List Value} {Q : List Value → Shared → Prop} (hl : s.heap.IsTuple l vs.toArray)
    (h : Q vs { s with heap := (s.heap.push (seqObj "list" #[] 0)).update s.heap.objs.size (Obj.mapSeq (· ++ vs.toArray)) }) (hsz : vs.length ≤ sizeLine) :
    wpAny (model prog w) A (collect (.ref l)) Q E s := by
  obtain ⟨o, ho, hc, n, hd⟩ := id hl
  unfold collect
  refine wpAny_bind (wpAny_runValue (codeAny_builtin entry_proto_collect' ?_))
  show wpAny _ _ (do again (.builtin "list.__iadd__" ⟨[← newList [], .ref l], []⟩)) _ _ s
  refine wpAny_bind (wpAny_newList (wpAny_pure ⟨Code.quiet_builtin _ (by decide +kernel), codeAny_builtin entry_list_iadd' ?_⟩))
  show wpAny _ _ (Builtin.List.listExtendWith (.ref s.heap.objs.size) (.ref l) (.ref s.heap.objs.size)) _ _ { s with heap := s.heap.push (seqObj "list" #[] 0) }
  unfold Builtin.List.listExtendWith
  have ho' : (s.heap.push (seqObj "list" #[] 0)).get? l = some o := Heap.get?_push_of_some _ ho
  refine wpAny_bind (wpAny_typeOf (T := "tuple") ⟨o, ho', hc⟩ ?_)
  have ht : (Value.type "tuple" == Value.type "tuple") = true := by rfl
  rw [if_pos (by rw [ht]; simp)]
  refine wpAny_bind (listItems_at ho' hd ?_)
  refine wpAny_bind (listItems_at (xs := #[]) (n := 0) (Heap.get?_push_size _ rfl) rfl ?_)
  rw [if_neg (by simp)]
  refine wpAny_bind (listUpdate_at (xs := #[]) (n := 0) (Heap.get?_push_size _ rfl) rfl ?_ (Nat.zero_le _) (by show (#[] ++ vs.toArray).size ≤ sizeLine + 1; simp only [Array.size_append, List.size_toArray, List.length_nil]; omega))
  refine wpAny_pure ?_
  show wpAny (model prog w) A (do
      let o ← load s.heap.objs.size
      match o.data with
      | .seq xs _ => pure xs.toList
      | _ => unsupported "internal:collect") Q E { s with heap := (s.heap.push (seqObj "list" #[] 0)).update s.heap.objs.size (Obj.mapSeq (· ++ vs.toArray)) }
  refine wpAny_bind (wpAny_load (get?_update_seq (Heap.get?_push_size _ rfl) _) ?_)
  show wpAny _ _ (pure ((#[] : Array Value) ++ vs.toArray).toList) Q E _
  rw [show ((#[] : Array Value) ++ vs.toArray).toList = vs by simp]
  exact wpAny_pure h
open SrtO in
theorem sorted_ordC {v : Value} {vs : List Value} {ltv : Value → Value → Bool} {Q : Value → Shared → Prop} (O : Swo ltv) (hz : vs.length ≤ sizeLine)
    (hcol : ∀ (A : Around) (E : Value → Shared → Prop) (Q : List Value → Shared → Prop), Q vs { s with heap := (s.heap.push (seqObj "list" #[] 0)).update s.heap.objs.size (Obj.mapSeq (· ++ vs.toArray)) } → wpAny (model prog w) A (collect v) Q E s)
    (hS : 2 ≤ vs.length → ∀ (h₁ : Heap) (a : Addr), h₁.get? a = some (seqObj "list" vs.toArray 0) → (∀ b o, s.heap.get? b = some o → b ≠ a ∧ h₁.get? b = some o) → SortableO prog w A.in1.in1 { s with heap := h₁ } a vs ltv)
    (h : ∀ out : List Value, Srtd ltv out → Stb ltv out vs → Q (.ref (s.heap.objs.size + 1)) { s with heap := sortedAll s.heap vs out.toArray }) :
    wpAny (model prog w) A (call (.builtin "sorted") [v]) Q E s := by
  refine Calls.call_function_entry kind_sorted plain_sorted entry_sorted (args_sorted1 _) ?_
  unfold Builtin.«sorted»
  refine wpAny_bind (m := checkCount "sorted" 1 1 _) (wpAny_pure ?_)
  refine wpAny_bind (hcol _ _ _ ?_)
  refine wpAny_bind (wpAny_newList ?_ hz)
  have hsz : ((s.heap.push (seqObj "list" #[] 0)).update s.heap.objs.size (Obj.mapSeq (· ++ vs.toArray))).objs.size = s.heap.objs.size + 1 := by
    rw [Heap.size_update, size_push']
  have hoL : (((s.heap.push (seqObj "list" #[] 0)).update s.heap.objs.size (Obj.mapSeq (· ++ vs.toArray))).push (seqObj "list" vs.toArray 0)).get? (s.heap.objs.size + 1) = some (seqObj "list" vs.toArray 0) := by
    rw [← hsz]; exact Heap.get?_push_size _ rfl
  have keep : ∀ b o, s.heap.get? b = some o → b ≠ s.heap.objs.size + 1 ∧ (((s.heap.push (seqObj "list" #[] 0)).update s.heap.objs.size (Obj.mapSeq (· ++ vs.toArray))).push (seqObj "list" vs.toArray 0)).get? b = some o := fun b o q => by
    have hlt : b < s.heap.objs.size := Heap.lt_size q
    refine ⟨Nat.ne_of_lt (Nat.lt_succ_of_lt hlt), Heap.get?_push_of_some _ ?_⟩
    rw [Heap.get?_update_ne _ _ _ _ (Nat.ne_of_lt hlt)]
    exact Heap.get?_push_of_some _ q
  show wpAny _ _ _ _ _ { s with heap := ((s.heap.push (seqObj "list" #[] 0)).update s.heap.objs.size (Obj.mapSeq (· ++ vs.toArray))).push (seqObj "list" vs.toArray 0) }
  rw [hsz]
  refine wpAny_bind (wpAny_holding (wpAny_call_entry slot_list_sort ⟨_, hoL, rfl⟩ entry_list_sort (list_sort_ord O hoL hz (fun h2 => hS h2 _ _ hoL keep) fun out hs hb => ⟨_, rfl, ?_⟩) (args_list_sort _)))
  exact wpAny_pure ⟨_, rfl, h out hs hb⟩
end
def PrAt (K : PySem.W.Frag) (H : Hp) (x : V) (p : Int × Int) : Prop := ∃ t, x = V.ref t ∧ SqT K H t [.int p.1, .int p.2]
theorem PrAt.up {K : PySem.W.Frag} {H : Hp} {x : V} {p : Int × Int} {d : Addr} {o : HO} (h : PrAt K H x p) (hd : H d = none) : PrAt K (upd H d o) x p := by
  obtain ⟨t, e, s⟩ := h
  exact ⟨t, e, (Tp.new hd).t _ _ s⟩
def lexLe (p q : Int × Int) : Prop := p.1 < q.1 ∨ (p.1 = q.1 ∧ p.2 ≤ q.2)
def rSortedPT (K : PySem.W.Frag) : List V → Hp → VK → Prop := fun vs H Q => ∃ (a : Addr) (xs : List V) (ps : List (Int × Int)), vs = [V.ref a] ∧ (SqL K H a xs ∨ SqT K H a xs) ∧ Paired (PrAt K H) xs ps ∧
  ∀ ys ps' p, Paired (PrAt K H) ys ps' → ps'.Perm ps → ps'.Pairwise lexLe → H p = none → Q (.ref p) (upd H p (.lst ys))
theorem pair_fun {h : Heap} {u : Value} {i j k l : Int} (a : Srt.IsPair h u i j) (b : Srt.IsPair h u k l) : i = k ∧ j = l := by
  obtain ⟨a, o, t, v, n, rfl, ho, _, hd⟩ := a
  obtain ⟨a', o', t', v', n', e, ho', _, hd'⟩ := b
  cases e
  rw [ho] at ho'
  cases ho'
  rw [hd] at hd'
  cases hd'
  exact ⟨rfl, rfl⟩
open Classical in
noncomputable def kOf (h : Heap) (u : Value) : Int × Int := if z : ∃ p : Int × Int, Srt.IsPair h u p.1 p.2 then z.choose else (0, 0)
theorem kOf_eq {h : Heap} {u : Value} {p : Int × Int} (z : Srt.IsPair h u p.1 p.2) : kOf h u = p := by
  have w : ∃ p : Int × Int, Srt.IsPair h u p.1 p.2 := ⟨p, z⟩
  unfold kOf
  rw [dif_pos w]
  obtain ⟨e1, e2⟩ := pair_fun w.choose_spec z
  exact Prod.ext e1 e2
theorem paired_mem {α β : Type} {R : α → β → Prop} : ∀ {xs : List α} {ys : List β} {x : α}, Paired R xs ys → x ∈ xs → ∃ y ∈ ys, R x y
  | _, _, _, .nil, h => by cases h
  | _, _, _, .cons r t, h => by
    rcases List.mem_cons.mp h with rfl | h
    · exact ⟨_, List.mem_cons_self, r⟩
    · obtain ⟨y, hy, z⟩ := paired_mem t h
      exact ⟨y, List.mem_cons_of_mem _ hy, z⟩
theorem paired_map {α β : Type} {R : α → β → Prop} {k : α → β} : ∀ {xs : List α}, (∀ x ∈ xs, R x (k x)) → Paired R xs (xs.map k)
  | [], _ => .nil
  | x :: xs, h => .cons (h x List.mem_cons_self) (paired_map fun y hy => h y (List.mem_cons_of_mem _ hy))
section
variable {X : Cx}
theorem cr_sortedPT : CallR X (.builtin "sorted") (rSortedPT X.K) := by
  intro pins s σ H vs us Q I r h
  obtain ⟨a, xs, ps, rfl, hs, hx, q⟩ := h
  obtain ⟨u, rfl, ru⟩ := vals1 r
  obtain rfl : u = Value.ref a := ru
  have main : ∀ its : List Value, Vals xs its → its.length ≤ sizeLine → (∀ (A : Around) (E : Value → Shared → Prop) (Q : List Value → Shared → Prop), Q its { s with heap := (s.heap.push (seqObj "list" #[] 0)).update s.heap.objs.size (Obj.mapSeq (· ++ its.toArray)) } → wpAny (model X.prog X.w) A (collect (.ref a)) Q E s) →
      wpAny (model X.prog X.w) X.A (call (.builtin "sorted") [.ref a]) (EP X pins σ Q) X.xe s := fun its rv hz hcol => by
    obtain ⟨e1, e2⟩ := refs_back rv fun x m => by
      obtain ⟨p, _, t, e, _⟩ := paired_mem hx m
      exact ⟨t, e⟩
    have hv : ∀ x p, PrAt X.K H x p → ∀ u, RelV x u → Srt.IsPair s.heap u p.1 p.2 := fun x p z u ru => by
      obtain ⟨t, e, ht⟩ := z
      subst e
      cases ru
      obtain ⟨its2, r2, ⟨o, ho, hc, n, hd⟩, hz2⟩ := I.tuple ht
      obtain ⟨u1, u2, rfl, ri, rj⟩ := vals2 r2
      obtain ⟨t1, rfl⟩ := ri
      obtain ⟨t2, rfl⟩ := rj
      exact ⟨t, o, t1, t2, n, rfl, ho, hc, hd⟩
    have hk : its.map (kOf s.heap) = ps := by
      clear hcol hz e1 e2 q hs r
      induction rv generalizing ps with
      | nil => cases hx; rfl
      | cons rw' rt ih =>
        cases hx with
        | cons hp ht => rw [List.map_cons, kOf_eq (hv _ _ hp _ rw'), ih _ ht]
    have hp : ∀ v ∈ its, ∃ p, Srt.IsPair s.heap v p.1 p.2 ∧ PrAt X.K H (backV v) p := fun v hm => by
      obtain ⟨t, rfl⟩ := e2 v hm
      have hm : V.ref t ∈ xs := by rw [e1]; exact List.mem_map.mpr ⟨_, hm, rfl⟩
      obtain ⟨p, _, z⟩ := paired_mem hx hm
      exact ⟨p, hv _ _ z _ rfl, z⟩
    refine sorted_ordC (SrtO.swo_lex (kOf s.heap)) hz hcol (fun h2 h₁ a' ha kk => ?_) fun out h1 h2 => ?_
    · refine SrtO.pairs_sortableO (s := { s with heap := h₁ }) (by omega) (fun v hm => ?_) fun o e => ?_
      · obtain ⟨p, z, _⟩ := hp v hm
        rw [kOf_eq z]
        exact z.keeps fun b o e _ => (kk b o e).2
      · have e' : some o = some (seqObj "list" its.toArray 0) := e.symm.trans ha
        cases e'
        intro c
        exact absurd (Value.type.inj c) (by decide)
    · have h3 : ∀ u ∈ out, ∃ a, u = Value.ref a := fun u hu => e2 u (h2.perm.mem_iff.mp hu)
      obtain ⟨n, hn⟩ := sortedAll_at s.heap its out.toArray
      refine ⟨.ref _, upd H (s.heap.objs.size + 1) (.lst (out.map backV)), I.laid (t' := s.toks) (fun _ _ => sortedAll_old) (Nat.le_succ _) ⟨?_, out, n, vals_back h3, hn⟩, rfl, q _ (out.map (kOf s.heap)) _ ?_ ?_ ?_ (I.hok.fresh (Nat.le_succ _))⟩
      · rw [List.length_map, h2.perm.length_eq]
        exact hz
      · have z : Paired (fun u p => PrAt X.K H (backV u) p) out (out.map (kOf s.heap)) := paired_map fun u hu => by
          obtain ⟨p, z1, z2⟩ := hp u (h2.perm.mem_iff.mp hu)
          rw [kOf_eq z1]
          exact z2
        generalize out.map (kOf s.heap) = l at z
        clear hn h3 h1 h2
        induction z with
        | nil => exact .nil
        | cons a b ih => exact .cons a ih
      · rw [← hk]
        exact h2.perm.map _
      · rw [List.pairwise_map]
        refine h1.imp fun {x y} z => ?_
        have := SrtO.lexB_no.mp z
        unfold lexLe
        omega
  rcases hs with hs | hs
  · obtain ⟨its, rv, hl, hz⟩ := I.list hs
    have hz' : its.length ≤ sizeLine := by rw [← rv.length]; exact hz
    exact main its rv hz' fun A E Q q => collect_list hl.isList q hz'
  · obtain ⟨its, rv, hl, hz⟩ := I.tuple hs
    have hz' : its.length ≤ sizeLine := by
      first | exact hz | (rw [← rv.length]; exact hz)
    exact main its rv hz' fun A E Q q => collect_tupleA hl q hz'
end
def prI (p : Int × Int) : Dv := .tup [.int p.1, .int p.2]
def acSortP : ARC := fun ds M Q => match ds with
  | [d] => ∃ ps : List (Int × Int), itemsA d M = some (ps.map prI) ∧ ∀ ps' : List (Int × Int), ps'.Perm ps → ps'.Pairwise lexLe → ∀ p, M p = none → Q (.ref p) (mup M p (.lst (ps'.map prI)))
  | _ => False
theorem reps_prI {K : PySem.W.Frag} {H : Hp} : ∀ {ps : List (Int × Int)} {vs : List V}, Reps K H (ps.map prI) vs → Paired (PrAt K H) vs ps
  | [], vs, r => by rw [r.nil_inv]; exact .nil
  | p :: ps, vs, r => by
    obtain ⟨v, w, rfl, r1, r2⟩ := Reps.cons_inv (d := prI p) (ds := ps.map prI) (by simpa using r)
    obtain ⟨a, xs, e, s, z⟩ := rep_tup_inv r1
    obtain ⟨x, y, e2, z1, z2⟩ := reps2 z
    have ex := rep_int_inv z1
    have ey := rep_int_inv z2
    subst e e2 ex ey
    exact .cons ⟨a, rfl, s⟩ (reps_prI r2)
theorem pr_back {K : PySem.W.Frag} {H : Hp} : ∀ {ps : List (Int × Int)} {vs : List V}, Paired (PrAt K H) vs ps → Reps K H (ps.map prI) vs
  | _, _, .nil => .nil
  | _, _, .cons ⟨t, e, s⟩ r => by
    subst e
    exact .cons (rep_tup s (.cons rep_int (.cons rep_int .nil))) (pr_back r)
theorem abc_sortP {K : PySem.W.Frag} : AbC K (rSortedPT K) acSortP := by
  intro H M vs ds Q Q' r hv q k
  match ds, q with
  | [d], ⟨ps, h, q⟩ =>
    obtain ⟨v, e, rd⟩ := reps1 r
    obtain ⟨a, ws, e1, s, z⟩ := itemsA_ok rd hv h
    exact ⟨a, ws, ps, by rw [e, e1], s.symm, reps_prI z, fun ys ps' p hy hp hs hn => end_lst (pr_back hy) hv (q ps' hp hs) k p hn⟩
end HC
namespace HC
open PySem PySem.Spec L2 HT PyProof.Rows
section
variable {prog : Program} {w : World} {A : Around} {E : Value → Shared → Prop} {s : Shared}
end
section
variable {X : Cx} {e : Expr} {te : RE}
end
end HC
set_option maxHeartbeats 1000000
namespace HC
open PySem PySem.Spec L2 PyProof.Rows
def castD : Dv → Dv
  | .tuc xs => .tup xs
  | d => d
theorem cast_rep {K : PySem.W.Frag} {H : Hp} {d : Dv} {v : V} (r : Rep K H d v) : Rep K H (castD d) v := by
  cases d <;> first | exact r | skip
  case tuc xs =>
    obtain ⟨a, vs, e, s, z⟩ := rep_tuc_inv r
    rw [e]
    exact rep_tup s.t z
def aCast (te : RE) : RE := fun ρ M Q => te ρ M fun d M1 => Q (castD d) M1
section
variable {X : Cx} {e o f : Expr} {es : List Expr} {te to tf : RE} {t : RA} {pos apos cpos p : Pos} {K : PySem.W.Frag}
theorem ae_cast (h : AE X e te) : AE X e (aCast te) := pe_imp h fun σ H Q' ⟨ρ, M, Q, hr, hv, q, k⟩ => ⟨ρ, M, _, hr, hv, q, fun v H' d M' t' r v' q' => k v H' (castD d) M' t' (cast_rep r) v' q'⟩
theorem call_tuple_ofC : CallR X (.type "tuple") (fun xs H Q => ∃ p ys, xs = [.ref p] ∧ SqL X.K H p ys ∧ ∀ (l : Addr) (o : Obj), o.dict = none → H l = none → Q (.ref l) (upd H l (.frz o (.tup ys)))) := by
  intro pins s σ H xs us Q I r h
  obtain ⟨p, ys, rfl, hq, q⟩ := h
  obtain ⟨u, rfl, rx⟩ := vals1 r
  cases rx
  obtain ⟨its, r', pl, hz⟩ := I.list hq
  have hlen := r'.length
  refine call_tuple_list pl.isList (fun h' kp => ?_) (by simp only [List.size_toArray] <;> omega)
  have I1 : Inv X pins σ H { s with heap := h' } := I.kept (t' := s.toks) kp
  exact ⟨.ref h'.objs.size, upd H h'.objs.size (.frz { cls := .type "tuple", data := .seq its.toArray } (.tup ys)),
    I1.laid (t' := s.toks) (o := .frz { cls := .type "tuple", data := .seq its.toArray } (.tup ys)) (fun b o e => Heap.get?_push_of_some _ e) (Nat.le_refl _) ⟨Heap.get?_push_size _ rfl, hz, its, r', IsTup.new _ _⟩, rfl, q _ _ rfl (I1.hok.fresh (Nat.le_refl _))⟩
def acTupC : ARC := fun ds M Q => match ds with
  | [d] => onS (lstA d M) fun xs => Q (.tuc xs) M
  | _ => False
theorem abc_tupC : AbC K (fun xs H Q => ∃ p ys, xs = [.ref p] ∧ SqL K H p ys ∧ ∀ (l : Addr) (o : Obj), o.dict = none → H l = none → Q (.ref l) (upd H l (.frz o (.tup ys)))) acTupC := by
  intro H M vs ds Q Q' r hv q k
  match ds, q with
  | [d], q =>
    obtain ⟨xs, h, q⟩ := onS_ex q
    obtain ⟨v, e, rd⟩ := reps1 r
    obtain ⟨a, ws, e1, s, z⟩ := lstA_ok rd hv h
    refine ⟨a, ws, by rw [e, e1], s, fun l o ho hl => k _ _ (.tuc xs) M (Tp.new hl) ?_ (hv.new hl) q⟩
    simp only [Rep]
    exact ⟨l, ws, rfl, ⟨o, upd_same, ho⟩, z.mono (Tp.new hl)⟩
theorem cnt_room {ds : List PyData} {d : PyData} {u : Nat} (hd : PyData.depth d ≤ 20) (hu : u + 64 < cLine) : u + 1 + min (PyData.depthAll ds) d.depth < cLine := by
  have : min (PyData.depthAll ds) d.depth ≤ 20 := Nat.le_trans (Nat.min_le_right _ _) hd
  omega
theorem lst_of_tyM {x : Dv} {M : Ms} {xs : List Dv} (h : itemsA x M = some xs) (ht : tyM "list" x M) : lstA x M = some xs := by
  cases x <;> first | exact h | exact ht.elim
end
end HC
namespace HC
open PySem L2
end HC
set_option maxHeartbeats 1000000
namespace HC
open PySem PySem.Spec L2 PyProof.Rows
section
variable {X : Cx} {e o f tg : Expr} {es : List Expr} {te to tf : RE} {t : RA} {pos apos cpos p : Pos} {K : PySem.W.Frag}
def aSetd (to te tf : RE) : RE := fun ρ M Q => to ρ M fun x M1 => match x with
  | .ref a => (∃ kvs, M1 a = some (.dic kvs)) ∧ te ρ M1 fun y M2 => tf ρ M2 fun z M3 => match M3 a with
    | some (.dic kvs) => onS (keyD y) fun k => kvs.length < sizeLine ∧ match getK kvs k with
      | some d => Q d M3
      | none => Q z (mup M3 a (.dic (putA kvs k z)))
    | _ => False
  | _ => False
theorem view_dic {M : Ms} {H : Hp} {a : Addr} {kds : List (Key × Dv)} (hv : View K M H) (h : M a = some (.dic kds)) : ∃ kvs, H a = some (.dK kvs) ∧ KP K H Key kds kvs := hv a _ h
theorem ae_setd (ho : AE X o to) (he : AE X e te) (hf : AE X f tf) (m : M2 X o "setdefault" apos e f cpos) : AE X (.Call (.Attribute o "setdefault" apos) [e, f] [] cpos) (aSetd to te tf) :=
  pe_imp (pe_dsetd ho he hf m) fun σ H Q' ⟨ρ, M, Q, hr, hv, q, k⟩ => seqE hr hv q fun v H1 d M1 t1 r1 v1 q1 => by
    cases d <;> first | exact q1.elim | skip
    case ref a =>
      obtain ⟨⟨kds0, e0⟩, q1⟩ := q1
      obtain ⟨kv0, e00, _⟩ := view_dic v1 e0
      refine ⟨a, rep_ref_inv r1, .inl ⟨kv0, .inl e00⟩, ?_⟩
      refine seqE (hr.mono t1) v1 q1 fun y H2 dy M2 t2 r2 v2 q2 => ?_
      have t12 := t1.trans t2
      refine seqE (hr.mono t12) v2 q2 fun z H3 dz M3 t3 r3 v3 q3 => ?_
      have t13 := t12.trans t3
      split at q3
      · next kds e3 =>
        obtain ⟨kk, e4, hl, q4⟩ := onS_ex q3
        obtain ⟨kvs, e5, r⟩ := view_dic v3 e3
        have ey : y = kV kk := keyD_ok (r2.mono t3) e4
        have tp := Tp.put (K := X.K) (H := H3) (a := a) (o := .dK (putK kvs kk z)) (v3.soft e3)
        refine ⟨kvs, kk, e5, ey, by rw [← kp_len r]; exact hl, fun w hw => ?_, fun hn => ?_⟩
        · rcases getK_ok (k := kk) r with ⟨h1, h2⟩ | ⟨d', v', h1, h2, h3⟩
          · rw [h2] at hw; cases hw
          · rw [h2] at hw
            cases hw
            rw [h1] at q4
            exact k _ _ d' _ t13 h3 v3 q4
        · rcases getK_ok (k := kk) r with ⟨h1, h2⟩ | ⟨d', v', h1, h2, h3⟩
          · rw [h1] at q4
            exact k _ _ dz _ (t13.trans tp) (r3.mono tp) (v3.put (c := .dic (putA kds kk dz)) (v3.soft e3) ⟨_, upd_same, kp_mono (kp_put r3 r) tp⟩) q4
          · rw [h2] at hn; cases hn
      · exact q3.elim
def keyDv : Key → Dv
  | .inl i => .int i
  | .inr x => .str x
theorem rep_key {H : Hp} (k : Key) : Rep K H (keyDv k) (kV k) := by cases k <;> first | exact rep_int | exact rep_str
def dicA (M : Ms) (d : Dv) : Option (List (Key × Dv)) := match d with
  | .ref a => match M a with
    | some (.dic kvs) => some kvs
    | some (.fdc kvs) => some kvs
    | _ => none
  | _ => none
theorem dicA_ok {M : Ms} {H : Hp} {d : Dv} {v : V} {kds : List (Key × Dv)} (r : Rep K H d v) (hv : View K M H) (h : dicA M d = some kds) : ∃ a kvs, v = .ref a ∧ d = .ref a ∧ Rd H a (.dK kvs) ∧ KP K H Key kds kvs := by
  cases d <;> first | cases h; done | skip
  case ref a =>
    simp only [dicA] at h
    split at h
    · next kvs e =>
      cases h
      obtain ⟨ws, e2, z⟩ := view_dic hv e
      exact ⟨a, ws, rep_ref_inv r, rfl, .inl e2, z⟩
    · next kvs e =>
      cases h
      obtain ⟨ws, ob, e2, z⟩ := (show ∃ kvs' o', H a = some (.frz o' (.dK kvs')) ∧ KP K H Key kds kvs' from hv a _ e)
      exact ⟨a, ws, rep_ref_inv r, rfl, .inr ⟨ob, e2⟩, z⟩
    · cases h
theorem kp_keys {H : Hp} {kds : List (Key × Dv)} {kvs : List (Key × V)} (h : KP K H Key kds kvs) : kds.map (·.1) = kvs.map (·.1) := by
  induction h with
  | nil => rfl
  | cons r t ih => rw [List.map_cons, List.map_cons, ih, r.1]
def rSortedDI : List V → Hp → VK → Prop := fun xs H Q => ∃ (a : Addr) (kvs : List (Key × V)) (ns : List Int), xs = [.ref a] ∧ Rd H a (.dK kvs) ∧ kvs.map (·.1) = ns.map Sum.inl ∧
  ∀ (ns' : List Int) (p : Addr), ns'.Perm ns → ns'.Pairwise (· ≤ ·) → H p = none → Q (.ref p) (upd H p (.lst (ns'.map V.int)))
theorem ints_atK : ∀ {us : List Value} {ns : List Int}, us.length = ns.length → (∀ j v, us[j]? = some v → ∃ t, v = Value.int (ns.getD j 0) t) → IntsAre us ns
  | [], [], _, _ => .nil
  | [], _ :: _, h, _ => by simp at h
  | _ :: _, [], h, _ => by simp at h
  | u :: us, n :: ns, hl, h => by
    obtain ⟨t, e⟩ := h 0 u rfl
    have e' : u = Value.int n t := e
    subst e'
    exact .cons _ _ (ints_atK (by simpa using hl) fun j v hv => h (j + 1) v (by simpa using hv))
theorem cr_sortedDI (hcalm : X.calm = true) : CallR X (.builtin "sorted") rSortedDI := by
  intro pins s σ H xs us Q I r q
  obtain ⟨a, kvs, ns, ex, hd, hks, q⟩ := q
  subst ex
  obtain ⟨u, eu, rx⟩ := vals1 r
  subst eu
  cases rx
  obtain ⟨z, lo, vs, rel, dd⟩ := dk_rd I.hok hd
  obtain ⟨ep, hat⟩ := dd.dictAt
  have hkeys : vs.map (·.1) = ns.map Sum.inl := rel.keys.symm.trans hks
  have hl : vs.length = ns.length := by
    have e := congrArg List.length hkeys
    rw [List.length_map, List.length_map] at e
    exact e
  have hz : vs.length ≤ sizeLine := by rw [← rel.length]; exact z
  refine Calls.call_function_entry PyProof.Rows.kind_sorted PyProof.Rows.plain_sorted PyProof.Rows.entry_sorted (PyProof.Rows.args_sorted1 _) ?_
  unfold Builtin.«sorted»
  refine wpAny_bind (m := checkCount "sorted" 1 1 _) (wpAny_pure ?_)
  refine wpAny_bind (PySem.W.kdu_collect (A := X.A.in1) (PySem.W.kdl_dict (knd := mixKind X.prog X.w) (kvs := vs) (ep := ep) lo) (I.ok.hd hcalm) hat hz fun h' tk acc hk hacc => ?_)
  have hal : acc.toList.length = ns.length := by rw [Array.length_toList, hacc.1, hl]
  have hS : IntsAre acc.toList ns := ints_atK hal fun j v e => by
    obtain ⟨k, x, e1, e2⟩ := hacc.2 j v (by rw [← Array.getElem?_toList]; exact e)
    have e3 : (vs.map (·.1))[j]? = some k := by rw [List.getElem?_map, e1]; all_goals rfl
    rw [hkeys, List.getElem?_map] at e3
    rw [List.getD_eq_getElem?_getD]
    cases e4 : ns[j]? with
    | none => rw [e4] at e3; cases e3
    | some y =>
      rw [e4] at e3
      have e5 : Sum.inl y = k := Option.some.inj e3
      subst e5
      rcases keyIs_shape (k := Sum.inl y) (v := v) e2 with ⟨i, t, ek, ev⟩ | ⟨_, _, ek, _⟩
      · cases ek
        exact ⟨t, ev⟩
      · cases ek
  have I1 : Inv X pins σ H { s with heap := h', toks := tk } := I.kept hk
  have hz2 : acc.toList.length ≤ sizeLine := by rw [hal, ← hl]; exact hz
  refine wpAny_bind (wpAny_newList ?_ hz2)
  have hoL : (h'.push (seqObj "list" acc.toList.toArray 0)).get? h'.objs.size = some (seqObj "list" acc.toList.toArray 0) := Heap.get?_push_size _ rfl
  show wpAny _ _ _ _ _ { s with heap := h'.push (seqObj "list" acc.toList.toArray 0), toks := tk }
  refine wpAny_bind (wpAny_holding (wpAny_call_entry PyProof.Rows.slot_list_sort ⟨_, hoL, rfl⟩ PyProof.Rows.entry_list_sort
    (SrtO.list_sort_ord SrtO.swo_int (s := { s with heap := h'.push (seqObj "list" acc.toList.toArray 0), toks := tk }) hoL hz2 (fun h2 => SrtO.ints_sortable hS h2) fun out h1 h2 => ⟨_, rfl, ?_⟩)
    (PyProof.Rows.args_list_sort _)))
  obtain ⟨k1, k2, k3⟩ := SrtO.ints_out hS h1 h2
  obtain ⟨e', he'⟩ := PyProof.Rows.sortedHeap_at (vs := acc.toList) (out := out.toArray) hoL
  have hlen : ((out.map SrtO.iv).map V.int).length ≤ sizeLine := by
    rw [List.length_map, k2.length_eq, ← hal]
    exact hz2
  refine wpAny_pure ⟨_, rfl, .ref h'.objs.size, upd H h'.objs.size (.lst ((out.map SrtO.iv).map V.int)), I1.laid (t' := tk) (fun b u e => ?_) (Nat.le_refl _)
    (show ObjOk X.prog X.w _ _ _ (.lst ((out.map SrtO.iv).map V.int)) from ⟨hlen, out, e', vals_of_ints k1, he'⟩), rfl, q _ _ k2 k3 (I1.hok.fresh (Nat.le_refl _))⟩
  have hb : b < h'.objs.size := Heap.lt_size e
  rw [PyProof.Rows.sortedHeap_old (Nat.ne_of_lt hb) (by rw [size_push']; exact Nat.lt_succ_of_lt hb)]
  exact Heap.get?_push_of_some _ e
def acSortDI : ARC := fun ds M Q => match ds with
  | [d] => onS (dicA M d) fun kds => ∃ ns : List Int, kds.map (·.1) = ns.map Sum.inl ∧ ∀ ns' : List Int, ns'.Perm ns → ns'.Pairwise (· ≤ ·) → ∀ p, M p = none → Q (.ref p) (mup M p (.lst (ns'.map Dv.int)))
  | _ => False
theorem abc_sortDI : AbC K rSortedDI acSortDI := by
  intro H M vs ds Q Q' r hv q k
  match ds, q with
  | [d], q =>
    obtain ⟨kds, h, ns, hk, q⟩ := onS_ex q
    obtain ⟨v, e, rd⟩ := reps1 r
    obtain ⟨a, kvs, e1, _, z, kp⟩ := dicA_ok rd hv h
    exact ⟨a, kvs, ns, by rw [e, e1], z, by rw [← kp_keys kp]; exact hk, fun ns' p h1 h2 hn => end_lst (reps_ints ns') hv (q ns' h1 h2) k p hn⟩
end
end HC
namespace HC
open PySem PySem.Spec L2 PyProof.Rows
theorem inv_frzD {X : Cx} {pins : List (Addr × Obj)} {σ : L2.St} {H : Hp} {s : Shared} {a : Addr} {kvs : List (Key × V)} (I : Inv X pins σ H s) (h : H a = some (.dK kvs)) : ∃ o, Inv X pins σ (upd H a (.frz o (.dK kvs))) s := by
  have hk := I.hok a _ h
  obtain ⟨o, e⟩ : ∃ o, s.heap.get? a = some o := objOk_get hk
  have ne : ∀ {b : Addr} {u : HO}, H b = some u → u ≠ .dK kvs → b ≠ a := fun {b u} q hu e' => by
    subst e'; rw [h] at q; cases q; exact hu rfl
  refine ⟨o, I.un (h' := s.heap) (t' := s.toks) ⟨fun b o q n hb hx => q, fun b o q n _ _ => ⟨o.slots, q⟩, fun b o q n hx => ?_, fun b o q _ => ⟨o, q⟩, fun b ys q => ?_, fun b o u q => ?_, fun b ps q => ⟨#[], ?_⟩⟩ fun b u (q : upd H a (.frz o (.dK kvs)) b = some u) => ?_⟩
  · rw [upd_ne]
    · exact n
    · intro e'; subst e'; rw [h] at n; cases n
  · rw [upd_ne (ne q (fun z => nomatch z))]; exact q
  · rw [upd_ne (ne q (fun z => nomatch z))]; exact q
  · rw [upd_ne (ne q (fun z => nomatch z))]; simpa using q
  · by_cases hb : b = a
    · subst hb
      rw [upd_same] at q
      cases q
      refine ⟨e, ?_⟩
      exact hk.stay (fun _ _ _ q => q) (fun c q => by rw [upd_ne (ne q (fun z => nomatch z))]; exact q) (fun c ys q => by rw [upd_ne (ne q (fun z => nomatch z))]; exact q)
    · rw [upd_ne hb] at q
      exact (I.hok b u q).stay (fun _ _ _ q => q) (fun c q => by rw [upd_ne (ne q (fun z => nomatch z))]; exact q) (fun c ys q => by rw [upd_ne (ne q (fun z => nomatch z))]; exact q)
theorem pe_frzD {X : Cx} {e : Expr} {t : TE} (h : PE X e t) : PE X e (fun σ H Q => t σ H (fun v H' => Q v H' ∨ ∃ a kvs, v = .ref a ∧ H' a = some (.dK kvs) ∧ ∀ o, Q v (upd H' a (.frz o (.dK kvs))))) :=
  ⟨fun pins s σ H Q I q => thn (h.run pins s σ H _ I q) fun u s' ⟨v, H', I', r, q'⟩ => by
    rcases q' with q' | ⟨a, kvs, e, hl, q'⟩
    · exact ⟨v, H', I', r, q'⟩
    · obtain ⟨o, I2⟩ := inv_frzD I' hl
      exact ⟨v, _, I2, r, q' o⟩⟩
section
variable {X : Cx} {e o f tg : Expr} {es : List Expr} {te to tf : RE} {t : RA} {pos apos cpos p : Pos} {K : PySem.W.Frag}
def aiKeys (te : RE) : RI := fun ρ M Q => te ρ M fun x M1 => match x with
  | .ref a => match M1 a with
    | some (.dic kds) => Q (kds.map fun kv => keyDv kv.1) (fun _ => True) (mup M1 a (.fdc kds))
    | some (.fdc kds) => Q (kds.map fun kv => keyDv kv.1) (fun _ => True) M1
    | _ => False
  | _ => False
theorem iw_keys {a : Addr} {ob : Obj} {kds : List (Key × Dv)} {kvs : List (Key × V)} {H0 H1 : Hp} (z : KP K H0 Key kds kvs) (h : H1 a = some (.frz ob (.dK kvs))) : IW K (Itk a ob kvs) (kds.map fun kv => keyDv kv.1) (fun _ => True) H1 where
  go := fun i H M hi t v _ => ⟨t.d _ _ _ h, by rw [← kp_len z]; simpa using hi⟩
  stop := fun H M t v _ => ⟨t.d _ _ _ h, by rw [List.length_map, kp_len z]; exact Nat.le_refl _⟩
  yld := fun i H M x H' hi t v _ y => by
    obtain ⟨e, k, w, hk, ex⟩ := y
    subst e
    have ek := kp_keys z
    have e2 : (kds.map (·.1))[i]? = some k := by rw [ek, List.getElem?_map, hk]; rfl
    refine ⟨keyDv k, ?_, Tp.refl _, ?_, v, fun _ _ => rfl⟩
    · rw [List.getElem?_map] at e2 ⊢
      obtain ⟨q, hq, e3⟩ := Option.map_eq_some_iff.mp e2
      rw [hq, ← e3]
      rfl
    · rw [ex]; exact rep_key k
theorem ai_keys (he : AE X e te) : AI X tg e (aiKeys te) :=
  pi_imp (pi_keys (pe_frzD he)) fun σ H R ⟨ρ, M, Q, hr, hv, q, k⟩ => seqE hr hv q fun v H1 d M1 t1 r1 v1 q1 => by
    cases d <;> first | exact q1.elim | skip
    case ref a =>
      have ev := rep_ref_inv r1
      subst ev
      simp only [] at q1
      split at q1
      · next kds e =>
        obtain ⟨kvs, e2, z⟩ := view_dic v1 e
        refine .inr ⟨a, kvs, rfl, e2, fun ob => ?_⟩
        have tp := Tp.put (K := X.K) (H := H1) (a := a) (o := .frz ob (.dK kvs)) (v1.soft e)
        have z2 := kp_mono z tp
        exact ⟨a, ob, rfl, .inl ⟨kvs, upd_same, k _ _ _ _ _ (t1.trans tp) (v1.put (c := .fdc kds) (v1.soft e) ⟨kvs, ob, upd_same, z2⟩) q1 (iw_keys z upd_same)⟩⟩
      · next kds e =>
        obtain ⟨kvs, ob, e2, z⟩ := (show ∃ kvs' o', H1 a = some (.frz o' (.dK kvs')) ∧ KP X.K H1 Key kds kvs' from v1 a _ e)
        exact .inl ⟨a, ob, rfl, .inl ⟨kvs, e2, k _ _ _ _ _ t1 v1 q1 (iw_keys z e2)⟩⟩
      · exact q1.elim
def aIxD : AR2 := fun x y M Q => onS (dicA M x) fun kds => onS (keyD y) fun k => onS (getK kds k) fun d => Q d M
theorem ab_ixD : Ab2 K (rIxH K) aIxD := by
  intro H M x y dx dy Q Q' rx ry hv q k
  obtain ⟨kds, h, q⟩ := onS_ex q
  obtain ⟨kk, e1, q⟩ := onS_ex q
  obtain ⟨d, hd, q⟩ := onS_ex q
  obtain ⟨a, kvs, ex, _, z, kp⟩ := dicA_ok rx hv h
  rcases getK_ok (k := kk) kp with ⟨h1, _⟩ | ⟨d', v, h1, h2, h3⟩
  · rw [h1] at hd; cases hd
  · rw [h1] at hd; cases hd
    exact .inr ⟨a, v, ex, .inl ⟨kvs, kk, z, keyD_ok ry e1, h2.symm⟩, k _ _ _ _ (Tp.refl H) h3 hv q⟩
theorem ae_ixD {a b : Expr} {ta tb : RE} (hu : X.A.units + 1 < cLine) (ha : AE X a ta) (hb : AE X b tb) (hs : PlainIx b := by exact fun _ _ => rfl) : AE X (.Subscript a b pos) (aOp aIxD ta tb) := pe_imp (pe_ix (ix_H hu) ha hb hs) (aop_imp ab_ixD)
end
section
end
section
variable {X : Cx} {e o f tg : Expr} {es : List Expr} {te to tf : RE} {t : RA} {pos apos cpos p : Pos} {K : PySem.W.Frag}
end
end HC
set_option maxHeartbeats 1000000
namespace HC
open PySem PySem.Spec L2 PyProof.Rows
section
variable {X : Cx} {e : Expr} {te : RE} {pos : Pos} {K : PySem.W.Frag}
end
end HC
namespace HC
open PySem PySem.Spec L2 PyProof.Rows
end HC
set_option maxHeartbeats 1000000
namespace HC
open PySem PySem.Spec L2 PyProof.Rows
section
variable {X : Cx} {e o i : Expr} {es : List Expr} {c : Str} {pos p apos cpos tpos : Pos} {te to ti : RE} {t : RA} {C : Addr} {K : PySem.W.Frag}
variable {fa : Addr} {fd : FuncData} {ps : List Str} {asp : ASp} {k : Nat}
def aMk (c : Str) (asp : ASp) (t : RA) : RE := fun ρ M Q => t ρ M fun ds M1 => ∀ x, M1 x = none → asp (.ref x :: ds) (mup M1 x (.obj c [])) fun d M2 => d = .non ∧ Q (.ref x) M2
theorem ae_mk {x : Str} (F : KlF X.K c C) (hM : Mk X.K C fa) (G : FnA X.prog X.w X.K X.mg X.base k fa fd ps asp) (hr : Room (k + 1) X.A) (hm : X.mg x = some (.ref C)) (hb : Binds X.K fd ps []) (ha : AA X (e :: es) t) (hg : Gl X x := by rfl)
    (hdb : (x == ("__debug__" : Str)) = false := by decide) (he : starEach (e :: es) X.env = (false, eval e X.env) :: starEach es X.env := by rfl) (hpl : (backTo pos (starEach es X.env)).any (·.1) = false := by rfl) :
    AE X (.Call (.Name x p) (e :: es) [] pos) (aMk c asp t) :=
  pe_imp (pe_make hM G hr hg hm hb .nil pass0 ha hdb he hpl) fun σ H Q' ⟨ρ, M, Q, hr, hv, q, k⟩ => seqA hr hv q fun us H1 ds M1 t1 r1 v1 q1 => by
    intro x dx h1 h2 hne
    have n1 : upd H1 dx (.own x) x = none := (upd_ne hne.symm).trans h1
    have ta : Tp X.K H1 (upd H1 dx (.own x)) := Tp.new h2
    have tb : Tp X.K (upd H1 dx (.own x)) (upd (upd H1 dx (.own x)) x (.ins C dx [])) := Tp.new n1
    have vv : View X.K M1 (upd H1 dx (.own x)) := v1.new h2
    refine ⟨.ref x :: ds, mup M1 x (.obj c []), _, by rw [List.append_nil]; exact Reps.cons (by simp only [Rep]) (r1.mono (ta.trans tb)), vv.put (c := .obj c []) (by rw [n1]; trivial) ⟨C, dx, [], F.na, upd_same, .nil⟩, q1 x (v1.free h1), ?_⟩
    intro v H' d M' t3 r3 v3 ⟨hd, q3⟩
    subst hd
    exact ⟨rep_non_inv r3, k _ _ _ _ (((t1.trans ta).trans tb).trans t3) (by simp only [Rep]) v3 q3⟩
theorem as_augS_sub (ho : AE X o to) (hi : AE X i ti) (he : AE X e te) (ha : ∀ ov iv new, augStore i ov iv new = (do holding [new, ov, iv] (setItem ov iv new); release [new, ov, iv] []; pure .next) := by intros; rfl) : AS X (.AugAssign (.Subscript o i tpos) .Sub e pos) (aAugS to ti te fun i j => i - j) :=
  ps_imp (ps_augS ho hi get_list he ip_sub set_list ha) augS_imp
def amRem : ARM := fun x ds M Q => match x, ds with
  | .ref l, [.int k] => ∃ (ns : List Int) (j : Nat), M l = some (.lst (ns.map .int)) ∧ ns[j]? = some k ∧ (∀ m : Nat, m < j → ns[m]? ≠ some k) ∧ Q .non (mup M l (.lst ((ns.eraseIdx j).map .int)))
  | _, _ => False
theorem abm_rem : AbM K rRemI amRem := by
  intro H M x dx vs ds Q Q' rx rd hv q k
  match dx, ds, q with
  | .ref l, [.int n], ⟨ns, j, h1, hj, hm, q⟩ =>
    obtain ⟨v, e, r1⟩ := reps1 rd
    rw [rep_int_inv r1] at e
    obtain ⟨ws, e2, z⟩ := view_lst hv h1
    rw [z.ints] at e2
    exact ⟨l, ns, n, j, rep_ref_inv rx, e, e2, hj, hm, end_wr hv h1 (reps_ints _) rep_non q k⟩
theorem ae_rem (ho : AE X o to) (ha : AA X [e] t) (hline : (apos.endLine == cpos.line) = true := by rfl) (hbase : attributeBase o "remove" X.env (eval o X.env) = eval o X.env := by rfl)
    (hfew : ((backTo cpos (starEach [e] X.env)).all (fun x => !x.1) && (backToKw cpos (keywordEach [] X.env)).all (fun x => x.1.isSome)
      && decide (([e] : List Expr).length + ([] : List Keyword).length + (if ([] : List Keyword).isEmpty then 0 else 1) < 30)) = true := by rfl)
    (hs : starEach [e] X.env = (false, eval e X.env) :: starEach [] X.env := by rfl) (hplain : (backTo cpos (starEach [] X.env)).any (·.1) = false := by rfl) :
    AE X (.Call (.Attribute o "remove" apos) [e] [] cpos) (aMth "list" amRem to t) := ae_bm PySem.F.plainAttrs_list PySem.F.slot_list_remove PySem.F.type_list_remove mt_remove abm_rem ho ha hbase hfew hline hs hplain
end
end HC
set_option maxHeartbeats 4000000
namespace HC
open PySem PySem.Spec L2 PyProof.Rows
section
variable {P : Program} {w : World} {A : Around} {E : Value → Shared → Prop} {s : Shared}
abbrev nSet (w : World) : Obj := { cls := .type "set", dict := none, data := .set #[] 0 (.fresh 0 0 (!w.params.followText "set-order")) }
abbrev hSet (w : World) (s : Shared) : Heap := s.heap.push (nSet w)
def SetMade (w : World) (s : Shared) (ns : List Int) (t : Shared) : Prop := ∃ h' tk c, t = { s with heap := h', toks := tk } ∧ SetR w h' s.heap.objs.size (fun j => decide (j ∈ ns)) c ∧ c ≤ ns.length ∧ (∀ b o, s.heap.get? b = some o → h'.get? b = some o)
theorem set_list {q : Addr} {its : Array Value} {ns : List Int} {Q : Value → Shared → Prop} (hA : A.handled = none) (hq : s.heap.IsList q its) (hi : IntsAre its.toList ns) (hb : ns.length + 1 < scanBound)
    (hQ : ∀ t, SetMade w s ns t → Q (.ref s.heap.objs.size) t) : wpAny (model P w) A (call (.type "set") [.ref q]) Q E s := by
  have hz : its.size = ns.length := by have z := IntsAre.length hi; rwa [Array.length_toList] at z
  obtain ⟨_, _, hmro⟩ := F.called_set.mro
  have m1 := F.called_set.made
  have m2 := F.called_set.sub
  refine wpAny_call (codeAny_of_tree (show wpAny _ _ (callAny (.type "set") _) _ _ _ from ?_))
  refine wpAny_pure ⟨Code.quiet_builtin _ (by decide +kernel), codeAny_builtin F.entry_type_call ?_⟩
  rw [Around.under_plain (weight_type_call_type "set" [.ref q] []) rfl]
  have m3 := F.called_set.notType
  have m4 := F.called_set.canCreate
  have m5 := F.typeCall_set_1 (.ref q)
  repeat (any_goals (first | assumption | wp_step))
  refine codeAny_mono (code_set_led1 (.ref q) (E := E) (Q₁ := fun x t => x = .ref s.heap.objs.size ∧ t = { s with heap := hSet w s }) ⟨rfl, rfl⟩) fun r t ht => ?_
  cases r with
  | error e => exact ht
  | ok fl =>
    cases fl with
    | ret x =>
      obtain ⟨rfl, rfl⟩ := ht
      have hN : (hSet w s).get? s.heap.objs.size = some (nSet w) := Heap.get?_push_size _ rfl
      have hT : Shared.TypeIs { s with heap := hSet w s } (.ref s.heap.objs.size) "set" := ⟨_, hN, rfl⟩
      have m6 := F.called_set.init.lookup
      have m7 := F.called_set.init.bind (.ref s.heap.objs.size)
      repeat (any_goals (first | assumption | wp_step))
      refine codeAny_mono (codeAny_call_builtin (R := wants (fun r t => r = .none ∧ SetMade w s ns t) E) F.called_set.init.plain F.entry_set_init (check_set_init_1 hT ?_)) fun r t ht => ?_
      · obtain ⟨⟨ocls, od, oda, osl⟩, ho, hc, nl, hd⟩ := hq
        simp only at hc hd
        subst hc; subst hd
        have ho' : (hSet w s).get? q = some { cls := .type "list", dict := od, data := .seq its nl, slots := osl } := Heap.get?_push_of_some _ ho
        have m8 := F.sub_list_set
        have m9 := F.sub_list_frozenset
        have m10 : (Value.type "list" == Value.type "dict") = false := by decide
        have hl1 : (hSet w s).IsList q its := ⟨_, ho', rfl, nl, rfl⟩
        unfold Builtin.«set.__init__» noKeywords Builtin.Frozenset.updateFrom
        generalize hPI : pyIter = PI
        wp_walk
        subst hPI
        refine wpAny_pyIter_list hl1 (wpAny_bind (wpAny_runValue ?_))
        have hlt : q < s.heap.objs.size := Heap.lt_size ho
        have es : (hSet w s).objs.size = s.heap.objs.size + 1 := Heap.size_push ..
        have hA3 : A.in1.in1.in1.handled = none := by simp [hA]
        have n1 : q ≠ (hSet w s).objs.size := by rw [es]; exact Nat.ne_of_lt (Nat.lt_succ_of_lt hlt)
        have n2 : s.heap.objs.size ∉ [(hSet w s).objs.size, q] := fun z => by
          rcases List.mem_cons.mp z with z | z
          · rw [es] at z; exact absurd z (Nat.ne_of_lt (Nat.lt_succ_self _))
          · exact absurd (List.mem_singleton.mp z) (Nat.ne_of_gt hlt)
        have hv : ∀ (i : Nat) (v : Value), its[i]? = some v → ∃ k t, ns[i]? = some k ∧ v = .int k t := fun i v hx => by
          have hi' : i < ns.length := by rw [← hz]; exact (Array.getElem?_eq_some_iff.mp hx).1
          obtain ⟨t, e⟩ := PyProof.Rows.IntsAre.int_at hi i v (by rw [Array.getElem?_toList]; exact hx)
          exact ⟨ns[i], t, List.getElem?_eq_getElem hi', by rw [e, List.getD_eq_getElem?_getD, List.getElem?_eq_getElem hi'] <;> rfl⟩
        refine set_update_ints ((Walks.list hA3 _ q n1 its).toS) s.heap.objs.size n2 ns hz hb hv (its.size - 0) 0 _ (by omega) (Nat.zero_le _) ⟨⟨_, Heap.get?_push_size _ rfl, rfl, rfl⟩, hl1.push _⟩ ⟨0, Nat.le_refl 0, setR_new_at (Heap.get?_push_of_some _ hN)⟩ ?_
        intro s' c' hm hc' hS'
        obtain ⟨h', g', d', tk', os'⟩ := s'
        have e1 : g' = s.gens := hm.gens
        have e2 : d' = s.drawn := hm.drawn
        have e3 : os' = s.os := hm.os
        subst e1; subst e2; subst e3
        refine (show wpAny _ _ _ _ _ _ from wpAny_pure ?_)
        refine (show wpAny _ _ (ret Value.none) _ _ _ from wpAny_pure ⟨rfl, h', tk', c', rfl, hS', by rw [← hz]; exact hc', fun b o e => ?_⟩)
        have b0 : b < s.heap.objs.size := Heap.lt_size e
        refine hm.heap b o (fun z => ?_) (Heap.get?_push_of_some _ (Heap.get?_push_of_some _ e))
        rcases List.mem_cons.mp z with z | z
        · exact absurd z (Nat.ne_of_lt b0)
        · have z := List.mem_singleton.mp z
          rw [es] at z
          exact absurd z (Nat.ne_of_lt (Nat.lt_succ_of_lt b0))
      · cases r with
        | error e => exact ht
        | ok fl =>
          cases fl with
          | ret r =>
            obtain ⟨rfl, h', tk, c', rfl, h1, h2, h3⟩ := ht
            repeat (any_goals (first | assumption | wp_step))
            exact hQ _ ⟨h', tk, c', rfl, h1, h2, h3⟩
          | _ => exact ht.elim
    | _ => exact ht.elim
end
def aSortSet (te : RE) : RE := fun ρ M Q => te ρ M fun d M1 => ∃ ns : List Int, itemsA d M1 = some (ns.map Dv.int) ∧ ns.length < 64 ∧
  ∀ (ms : List Int) (p : Addr), ms.Pairwise (· < ·) → (∀ k, k ∈ ms ↔ k ∈ ns) → M1 p = none → Q (.ref p) (mup M1 p (.lst (ms.map Dv.int)))
section
variable {X : Cx} {e : Expr} {te : RE} {p p2 pos pos2 : Pos}
theorem ae_sortSet (hc : X.calm = true) (hm : X.mg "sorted" = none) (hm2 : X.mg "set" = none) (he : AE X e te) (hg : Gl X "sorted" := by rfl) (hg2 : Gl X "set" := by rfl)
    (na : starEach [e] X.env = (false, eval e X.env) :: starEach [] X.env := by rfl) :
    AE X (.Call (.Name "sorted" p) [.Call (.Name "set" p2) [e] [] pos2] [] pos) (aSortSet te) := by
  refine ⟨fun pins s σ H Q' I ⟨ρ, M, Q, hr, hv, q, k⟩ => ?_⟩
  refine Call_ (ld_blt I hg hm (show bootBuiltins "sorted" = some (.builtin "sorted") from PyProof.Rows.Boot.sorted) ?_)
  refine PyProof.Rows.callWith_builtin1 (PyProof.Rows.args_cons ?_ rfl) rfl rfl
  refine Call_ (ld_blt I hg2 hm2 (show bootBuiltins "set" = some (.type "set") from boot_set) ?_)
  refine PyProof.Rows.callWith_type1 (PyProof.Rows.args_cons (thn (he.run pins s σ H (fun v H1 => ∃ d M1, Tp X.K H H1 ∧ Rep X.K H1 d v ∧ View X.K M1 H1 ∧ ∃ ns : List Int, itemsA d M1 = some (ns.map Dv.int) ∧ ns.length < 64 ∧
    ∀ (ms : List Int) (p : Addr), ms.Pairwise (· < ·) → (∀ k, k ∈ ms ↔ k ∈ ns) → M1 p = none → Q (.ref p) (mup M1 p (.lst (ms.map Dv.int)))) I ?_) fun v s1 ⟨y, H1, I1, r1, d, M1, t1, rd, v1, ns, hi, hl, q1⟩ => PyProof.Rows.args_nil ?_) na) na rfl
  · exact ⟨ρ, M, _, hr, hv, q, fun v H1 d M1 t1 r1 v1 q1 => ⟨d, M1, t1, r1, v1, q1⟩⟩
  · obtain ⟨a, vs, rfl, sl, z⟩ := itemsA_ok rd v1 hi
    have z := z.ints
    subst z
    cases r1
    have hN : H1 s1.heap.objs.size = none := I1.hok.fresh (Nat.le_refl _)
    have fin : ∀ t, SetMade X.w s1 ns t → wpAny (model X.prog X.w) X.A (spliced (backTo pos (starEach [] X.env))) (fun vs s₂ => wpAny (model X.prog X.w) X.A (call (.builtin "sorted") (Value.ref s1.heap.objs.size :: vs)) (EP X pins σ Q') X.xe s₂) X.xe t := fun t ⟨h', tk, c, et, hS, hc', hk⟩ => by
      subst et
      refine PyProof.Rows.args_nil ?_
      have I2 : Inv X pins σ (upd H1 s1.heap.objs.size (SetO X.w s1.heap.objs.size (fun j => decide (j ∈ ns)) c)) { s1 with heap := h', toks := tk } := I1.laid (t' := tk) hk (Nat.le_refl _) (setO_new hS)
      have v2 : View X.K M1 (upd H1 s1.heap.objs.size (SetO X.w s1.heap.objs.size (fun j => decide (j ∈ ns)) c)) := v1.new hN
      refine cr_sortedSet hc pins _ σ _ [.ref s1.heap.objs.size] [.ref s1.heap.objs.size] Q' I2 (.cons rfl .nil) ⟨_, _, c, rfl, by rw [upd_same], by omega, fun ms p hp hm' hn hpn => ?_⟩
      have hM : M1 p = none := v2.free hpn
      have t2 : Tp X.K H1 (upd H1 s1.heap.objs.size (SetO X.w s1.heap.objs.size (fun j => decide (j ∈ ns)) c)) := Tp.new hN
      exact end_lst (reps_ints ms) v2 (fun p2 hM2 => q1 ms p2 hp (fun k => by rw [hm' k]; exact decide_eq_true_iff) hM2) (fun v H3 d M3 t3 r3 v3 q3 => k v H3 d M3 ((t1.trans t2).trans t3) r3 v3 q3) p hpn
    rcases sl with sl | sl
    · obtain ⟨its, r, pl, hz⟩ := I1.tuple sl
      refine call_set_tupI ns (I1.ok.hd hc) pl (by simpa using r.ints) (by unfold scanBound; omega) fun h' tk c h1 h2 h3 => fin _ ⟨h', tk, c, rfl, h1, h2, h3⟩
    · obtain ⟨its, r, pl, hz⟩ := I1.list sl
      exact set_list (I1.ok.hd hc) pl.isList (by simpa using r.ints) (by unfold scanBound; omega) fin
end
end HC
set_option maxHeartbeats 4000000
namespace HC
open PySem PySem.Spec L2 PyProof.Rows HT
section
variable {prog : Program} {w : World} {A : Around} {E : Value → Shared → Prop} {s : Shared}
end
section
variable {X : Cx} {e : Expr} {te : RE} {pos : Pos} {K : PySem.W.Frag}
end
end HC
set_option maxHeartbeats 4000000
namespace HC
open PySem PySem.Spec L2 PyProof.Rows HT
def rIdxL (K : PySem.W.Frag) : V → List V → Hp → VK → Prop := fun x xs H Q => ∃ (a : Addr) (vs : List V) (y : V) (d : PyData) (ds : List PyData) (j : Nat), x = V.ref a ∧ xs = [y] ∧ SqL K H a vs ∧ DpAll K H vs ds ∧ Dp K H y d ∧ PyData.canLayAll0 ds = true ∧ d.canLay0 = true ∧ PyData.depth d ≤ 20 ∧
  (∃ z, ds[j]? = some z ∧ PyData.eqv z d = true) ∧ (∀ m, m < j → ∀ z, ds[m]? = some z → PyData.eqv z d = false) ∧ Q (.int (j : Int)) H
section
variable {X : Cx}
theorem mt_idxL (hu : X.A.units + 64 < cLine) : MtR X "list.index" (rIdxL X.K) := by
  intro pins s σ H x xs v us Q I rx rxs h
  obtain ⟨a, vs, y, d, ds, j, rfl, rfl, hs, ha, hy, c1, c2, hd, hit, hno, q⟩ := h
  cases rx
  obtain ⟨uy, rfl, ry⟩ := rxs.one
  obtain ⟨bs, r1⟩ := Dp.reads I d y uy hy ry
  obtain ⟨its, rv, ⟨⟨cls, dd, data, sls⟩, n, ho, hc, hdn, hdt⟩, hlen⟩ := I.list hs
  simp only at hc hdt
  subst hc hdt
  obtain ⟨as, h4⟩ := Dp.readsAll I ds _ its ha rv
  have hmap : its.map (SeqAt.readOf s.heap) = ds := SeqAt.readsAll_map ds its as c1 h4
  have at' : ∀ m (hm : m < its.length), ds[m]? = some (SeqAt.readOf s.heap its[m]) := fun m hm => by
    rw [← hmap, List.getElem?_map, List.getElem?_eq_getElem hm]; rfl
  obtain ⟨z, hz, ez⟩ := hit
  have hj : j < its.length := by
    have := (List.getElem?_eq_some_iff.mp hz).1
    rw [← hmap, List.length_map] at this
    exact this
  have ez2 : PyData.eqv (SeqAt.readOf s.heap its[j]) d = true := by
    have := at' j hj
    rw [hz] at this
    cases this
    exact ez
  have jl : (j : Int) < 2 ^ 63 - 1 := by
    have h6 := hlen
    have h8 := rv.length
    have h7 : sizeLine ≤ 1000000000 := by decide
    omega
  refine call_meets PySem.F.slot_list_index ⟨_, ho, rfl⟩ PySem.F.entry_list_index (PySem.F.args_list_index_2 _ _)
    (SeqAt.list_indexAt a its.toArray n dd sls uy (fun u => PyData.eqv (SeqAt.readOf s.heap u) d) j (by simpa using hj) jl (by simpa using ez2) (fun m hm hmj => by
      have hm2 : m < its.length := by simpa using hm
      have := hno m hmj _ (at' m hm2)
      simpa using this)) ⟨ho, SeqAt.items_eqAt (vs := its.toArray) (show ReadsAll s.heap its.toArray.toList ds as from h4) r1 c1 c2 (cnt_room hd hu), ?_⟩
  exact ⟨.int (j : Int), H, I.tok _, ⟨s.toks, rfl⟩, q⟩
end
open Classical in
noncomputable def firstD (xs : List Dv) (y : Dv) : Nat := xs.findIdx fun x => decide (x = y)
theorem first_pl {n : Nat} {y : Dv} {xs : List Dv} (hy : Pl n y) (h : ∀ x ∈ xs, Pl n x) (hm : y ∈ xs) :
    (∃ z, (xs.map (pyP n))[firstD xs y]? = some z ∧ PyData.eqv z (pyP n y) = true) ∧ ∀ m, m < firstD xs y → ∀ z, (xs.map (pyP n))[m]? = some z → PyData.eqv z (pyP n y) = false := by
  classical
  have hlt : firstD xs y < xs.length := by
    unfold firstD
    exact List.findIdx_lt_length_of_exists ⟨y, hm, by simp⟩
  refine ⟨⟨pyP n xs[firstD xs y], by rw [List.getElem?_map, List.getElem?_eq_getElem hlt]; rfl, ?_⟩, fun m hmf z hz => ?_⟩
  · rw [eqv_dec n _ y (h _ (List.getElem_mem hlt)) hy]
    exact List.findIdx_getElem (p := fun x => decide (x = y)) (w := hlt)
  · have hml : m < xs.length := Nat.lt_trans hmf hlt
    rw [List.getElem?_map, List.getElem?_eq_getElem hml] at hz
    have hz : pyP n xs[m] = z := Option.some.inj hz
    subst hz
    rw [eqv_dec n _ y (h _ (List.getElem_mem hml)) hy]
    have := List.not_of_lt_findIdx (p := fun x => decide (x = y)) (xs := xs) (i := m) hmf
    simpa using this
noncomputable def amIdx : ARM := fun x ds M Q => match ds with
  | [y] => onS (itemsA x M) fun xs => (∀ z ∈ xs, Pl 8 z) ∧ Pl 8 y ∧ y ∈ xs ∧ Q (.int (firstD xs y : Nat)) M
  | _ => False
noncomputable def aIdxL (to : RE) (t : RA) : RE := fun ρ M Q => to ρ M fun x M1 => tyM "list" x M1 ∧ t ρ M1 fun ds M2 => tyM "list" x M2 ∧ amIdx x ds M2 Q
section
variable {X : Cx} {o e : Expr} {to : RE} {t : RA} {apos cpos : Pos}
theorem ae_indexL (hu : X.A.units + 64 < cLine) (ho : AE X o to) (ha : AA X [e] t) (hline : (apos.endLine == cpos.line) = true := by rfl) (hbase : attributeBase o "index" X.env (eval o X.env) = eval o X.env := by rfl)
    (hfew : ((backTo cpos (starEach [e] X.env)).all (fun x => !x.1) && (backToKw cpos (keywordEach [] X.env)).all (fun x => x.1.isSome)
      && decide (([e] : List Expr).length + ([] : List Keyword).length + (if ([] : List Keyword).isEmpty then 0 else 1) < 30)) = true := by rfl)
    (hs : starEach [e] X.env = (false, eval e X.env) :: starEach [] X.env := by rfl) (hplain : (backTo cpos (starEach [] X.env)).any (·.1) = false := by rfl) :
    AE X (.Call (.Attribute o "index" apos) [e] [] cpos) (aIdxL to t) :=
  pe_imp (pe_bm PySem.F.plainAttrs_list PySem.F.slot_list_index PySem.F.type_list_index (mt_idxL hu) ho ha hbase hfew hline hs hplain) fun σ H Q' ⟨ρ, M, Q, hr, hv, q, k⟩ =>
    seqE hr hv q fun v H1 d M1 t1 r1 v1 ⟨ht, q1⟩ => ⟨tyM_ok r1 v1 ht, seqA (hr.mono t1) v1 q1 fun vs H2 ds M2 t2 r2 v2 ⟨ht2, q2⟩ => by
      match ds, q2 with
      | [y], q2 =>
        obtain ⟨xs, hx, p1, p2, hm, q3⟩ := onS_ex q2
        obtain ⟨u, eu, ry⟩ := reps1 r2
        obtain ⟨a, ws, e1, s, z⟩ := lstA_ok (r1.mono t2) v2 (lst_of_tyM hx ht2)
        have d2 := depth_pl 8 _ p2
        obtain ⟨f1, f2⟩ := first_pl p2 p1 hm
        exact ⟨a, ws, u, _, _, firstD xs y, e1, eu, s, dpAll_of (dp_of 8) p1 z, dp_of 8 _ _ p2 ry, canLayAll_of (fun d hd => canLay_pl 8 d (p1 d hd)), canLay_pl _ _ p2, by omega, f1, f2, k _ _ _ _ (t1.trans t2) rep_int v2 q3⟩⟩
end
end HC
namespace HC
open PySem PySem.Spec L2 PyProof.Rows
section
variable {X : Cx} {a b : Expr} {ta tb : RE} {rest : List Expr} {pos : Pos}
end
end HC
set_option maxHeartbeats 1000000
namespace Law
open PySem L2 HC PyProof.Rows
abbrev NdT := Nat × List Nat × Nat
structure SprS where
  reads : List (List Nat)
  loads : List Nat
def cntS (rs : List (List Nat)) (d : Nat) : Nat := rs.countP fun r => decide (d ∈ r)
structure NdOk (N : List NdT) (w : Nat) : Prop where
  nd : ∀ n ∈ N, n.2.1.Nodup ∧ (∀ d ∈ n.2.1, d < w) ∧ n.2.2 ≤ n.2.1.length
structure SprI (N : List NdT) (w : Nat) (S : SprS) : Prop where
  rl : S.reads.length = N.length
  rd : ∀ (i : Nat) (n : NdT) (r : List Nat), N[i]? = some n → S.reads[i]? = some r → r.Nodup ∧ (∀ d ∈ r, d ∈ n.2.1) ∧ r.length = n.2.2
  ll : S.loads.length = w
  lc : ∀ d, d < w → S.loads.getD d 0 = cntS S.reads d
def lexB (p q : Nat × Nat) : Bool := decide (p.1 < q.1 ∨ (p.1 = q.1 ∧ p.2 ≤ q.2))
def sortP (l : List (Nat × Nat)) : List (Nat × Nat) := l.mergeSort lexB
def sortN (l : List Nat) : List Nat := l.mergeSort fun a b => decide (a ≤ b)
theorem sortP_perm (l : List (Nat × Nat)) : (sortP l).Perm l := List.mergeSort_perm l _
theorem sortP_pw (l : List (Nat × Nat)) : (sortP l).Pairwise fun p q => p.1 < q.1 ∨ (p.1 = q.1 ∧ p.2 ≤ q.2) := by
  have := List.pairwise_mergeSort (le := lexB) (fun a b c h1 h2 => by
    have h1 := of_decide_eq_true h1
    have h2 := of_decide_eq_true h2
    exact decide_eq_true (by omega)) (fun a b => by
    rw [Bool.or_eq_true]
    by_cases h : a.1 < b.1 ∨ (a.1 = b.1 ∧ a.2 ≤ b.2)
    · exact .inl (decide_eq_true h)
    · exact .inr (decide_eq_true (by omega))) l
  exact this.imp fun h => of_decide_eq_true h
theorem sortN_perm (l : List Nat) : (sortN l).Perm l := List.mergeSort_perm l _
theorem sortN_pw (l : List Nat) : (sortN l).Pairwise (· ≤ ·) := by
  have := List.pairwise_mergeSort (le := fun a b : Nat => decide (a ≤ b)) (fun a b c h1 h2 => decide_eq_true (Nat.le_trans (of_decide_eq_true h1) (of_decide_eq_true h2))) (fun a b => by
    rw [Bool.or_eq_true]
    rcases Nat.le_total a b with h | h
    · exact .inl (decide_eq_true h)
    · exact .inr (decide_eq_true h)) l
  exact this.imp fun h => of_decide_eq_true h
theorem sortN_lt {l : List Nat} (h : l.Nodup) : (sortN l).Pairwise (· < ·) := by
  have a := sortN_pw l
  have b : (sortN l).Nodup := (sortN_perm l).nodup_iff.mpr h
  exact (a.and b).imp fun ⟨x, y⟩ => Nat.lt_of_le_of_ne x y
theorem mem_sortN {l : List Nat} {x : Nat} : x ∈ sortN l ↔ x ∈ l := (sortN_perm l).mem_iff
theorem sortN_cast {l : List Nat} {L : List Int} (hp : L.Perm (l.map fun n : Nat => (n : Int))) (hs : L.Pairwise (· ≤ ·)) : L = (sortN l).map fun n : Nat => (n : Int) := by
  refine List.Perm.eq_of_pairwise (le := (· ≤ ·)) (fun a b _ _ h1 h2 => Int.le_antisymm h1 h2) hs ?_ (hp.trans ((sortN_perm l).map _).symm)
  rw [List.pairwise_map]
  exact (sortN_pw l).imp fun h => Int.ofNat_le.mpr h
theorem sortP_cast {l : List (Nat × Nat)} {L : List (Int × Int)} (hp : L.Perm (l.map fun n => ((n.1 : Int), (n.2 : Int)))) (hs : L.Pairwise fun p q => p.1 < q.1 ∨ (p.1 = q.1 ∧ p.2 ≤ q.2)) : L = (sortP l).map fun n => ((n.1 : Int), (n.2 : Int)) := by
  refine List.Perm.eq_of_pairwise (le := fun p q => p.1 < q.1 ∨ (p.1 = q.1 ∧ p.2 ≤ q.2)) (fun a b _ _ h1 h2 => Prod.ext (by omega) (by omega)) hs ?_ (hp.trans ((sortP_perm l).map _).symm)
  rw [List.pairwise_map]
  refine (sortP_pw l).imp fun h => ?_
  show ((_ : Nat) : Int) < _ ∨ (((_ : Nat) : Int) = _ ∧ ((_ : Nat) : Int) ≤ _)
  omega
def idleS (loads : List Nat) (n : NdT) : List (Nat × Nat) := (sortP (n.2.1.map fun d => (loads.getD d 0, d))).take n.2.2
def bumpS (loads : List Nat) (ds : List Nat) : List Nat := ds.foldl (fun l d => l.set d (l.getD d 0 + 1)) loads
def addS (S : SprS) (n : NdT) : SprS := ⟨S.reads ++ [(idleS S.loads n).map (·.2)], bumpS S.loads ((idleS S.loads n).map (·.2))⟩
def initS (N : List NdT) (w : Nat) : SprS := N.foldl addS ⟨[], List.replicate w 0⟩
theorem set_getS (l : List Nat) (i v j : Nat) (h : i < l.length) : (l.set i v).getD j 0 = if j = i then v else l.getD j 0 := by
  rw [List.getD_eq_getElem?_getD, List.getD_eq_getElem?_getD, List.getElem?_set]
  by_cases e : i = j
  · subst e
    rw [if_pos rfl, if_pos h, if_pos rfl]
    rfl
  · rw [if_neg e, if_neg (Ne.symm e)]
theorem bump_len (ds : List Nat) : ∀ loads : List Nat, (bumpS loads ds).length = loads.length := by
  induction ds with
  | nil => intro _; rfl
  | cons d ds ih =>
    intro l
    show (bumpS (l.set d (l.getD d 0 + 1)) ds).length = _
    rw [ih, List.length_set]
theorem bump_get (ds : List Nat) : ∀ (loads : List Nat) (x : Nat), ds.Nodup → (∀ d ∈ ds, d < loads.length) → (bumpS loads ds).getD x 0 = loads.getD x 0 + if x ∈ ds then 1 else 0 := by
  induction ds with
  | nil => intro l x _ _; rfl
  | cons d ds ih =>
    intro l x nd hl
    obtain ⟨n1, n2⟩ := List.nodup_cons.mp nd
    show (bumpS (l.set d (l.getD d 0 + 1)) ds).getD x 0 = _
    rw [ih _ x n2 (fun y hy => by rw [List.length_set]; exact hl y (.tail _ hy)), set_getS _ _ _ _ (hl d (.head _))]
    by_cases e : x = d
    · subst e
      rw [if_pos rfl, if_neg n1, if_pos (.head _)]
    · rw [if_neg e]
      have : (x ∈ d :: ds) ↔ x ∈ ds := by rw [List.mem_cons]; exact ⟨fun h => h.resolve_left e, .inr⟩
      simp only [this]
theorem idle_perm (loads : List Nat) (n : NdT) : ((sortP (n.2.1.map fun d => (loads.getD d 0, d))).map (·.2)).Perm n.2.1 := by
  have := (sortP_perm (n.2.1.map fun d => (loads.getD d 0, d))).map (·.2)
  rw [List.map_map, show ((fun x : Nat × Nat => x.2) ∘ fun d => (loads.getD d 0, d)) = id from rfl, List.map_id] at this
  exact this
theorem idle_ok {loads : List Nat} {n : NdT} (nd : n.2.1.Nodup) (hm : n.2.2 ≤ n.2.1.length) : ((idleS loads n).map (·.2)).Nodup ∧ (∀ d ∈ (idleS loads n).map (·.2), d ∈ n.2.1) ∧ ((idleS loads n).map (·.2)).length = n.2.2 := by
  have p := idle_perm loads n
  unfold idleS
  rw [List.map_take]
  refine ⟨(p.nodup_iff.mpr nd).sublist (List.take_sublist _ _), fun d hd => p.mem_iff.mp (List.mem_of_mem_take hd), ?_⟩
  rw [List.length_take, p.length_eq]
  omega
theorem cnt_snoc (rs : List (List Nat)) (r : List Nat) (d : Nat) : cntS (rs ++ [r]) d = cntS rs d + if d ∈ r then 1 else 0 := by
  unfold cntS
  rw [List.countP_append, List.countP_singleton]
  by_cases h : d ∈ r
  · simp [h]
  · simp [h]
theorem SprI.add {N : List NdT} {w : Nat} {S : SprS} {n : NdT} (h : SprI N w S) (nd : n.2.1.Nodup) (hw : ∀ d ∈ n.2.1, d < w) (hm : n.2.2 ≤ n.2.1.length) : SprI (N ++ [n]) w (addS S n) where
  rl := by
    show (S.reads ++ [_]).length = _
    rw [List.length_append, List.length_append, h.rl]
    rfl
  rd := fun i n' r h1 h2 => by
    have h2 : (S.reads ++ [(idleS S.loads n).map (·.2)])[i]? = some r := h2
    rw [List.getElem?_append] at h1 h2
    by_cases c : i < N.length
    · rw [if_pos c] at h1
      rw [if_pos (by rw [h.rl]; exact c)] at h2
      exact h.rd i n' r h1 h2
    · rw [if_neg c] at h1
      rw [if_neg (by rw [h.rl]; exact c), h.rl] at h2
      cases e : i - N.length with
      | zero =>
        rw [e] at h1 h2
        cases h1
        cases h2
        exact idle_ok nd hm
      | succ k => rw [e] at h1; cases h1
  ll := (bump_len _ _).trans h.ll
  lc := fun d hd => by
    obtain ⟨i1, i2, i3⟩ := idle_ok (loads := S.loads) nd hm
    show (bumpS S.loads _).getD d 0 = cntS (S.reads ++ [_]) d
    rw [bump_get _ _ _ i1 (fun x hx => by rw [h.ll]; exact hw x (i2 x hx)), cnt_snoc, h.lc d hd]
theorem SprI.nil (w : Nat) : SprI [] w ⟨[], List.replicate w 0⟩ where
  rl := rfl
  rd := fun i n r h1 _ => by cases h1
  ll := List.length_replicate
  lc := fun d hd => by
    show (List.replicate w 0).getD d 0 = 0
    rw [List.getD_eq_getElem?_getD, List.getElem?_replicate, if_pos hd]
    rfl
theorem init_snoc (N : List NdT) (n : NdT) (w : Nat) : initS (N ++ [n]) w = addS (initS N w) n := by
  unfold initS
  rw [List.foldl_append]
  rfl
theorem init_ok {w : Nat} {N : List NdT} (ok : NdOk N w) : ∀ i, SprI (N.take i) w (initS (N.take i) w) := by
  intro i
  induction i with
  | zero => rw [List.take_zero]; exact SprI.nil w
  | succ i ih =>
    by_cases h : i < N.length
    · rw [List.take_succ, List.getElem?_eq_getElem h]
      show SprI (N.take i ++ [N[i]]) w (initS (N.take i ++ [N[i]]) w)
      rw [init_snoc]
      obtain ⟨a, b, c⟩ := ok.nd _ (List.getElem_mem h)
      exact ih.add a b c
    · have e1 : N.take (i + 1) = N := List.take_of_length_le (by omega)
      have e2 : N.take i = N := List.take_of_length_le (by omega)
      rw [e1]
      rw [e2] at ih
      exact ih
end Law
set_option maxHeartbeats 1000000
namespace Law
open PySem L2 HC PyProof.Rows
def exN (N : List NdT) (rs : List (List Nat)) (h k : Nat) : List (Nat × Nat) := (List.range k).flatMap fun i => if h ∈ rs.getD i [] then ((N.getD i (0, [], 0)).2.1.filter fun o => decide (o ∉ rs.getD i [])).map fun o => (i, o) else []
def exchS (N : List NdT) (rs : List (List Nat)) (h : Nat) : List (Nat × Nat) := exN N rs h rs.length
theorem exN_succ (N : List NdT) (rs : List (List Nat)) (h k : Nat) : exN N rs h (k + 1) = exN N rs h k ++ if h ∈ rs.getD k [] then ((N.getD k (0, [], 0)).2.1.filter fun o => decide (o ∉ rs.getD k [])).map fun o => (k, o) else [] := by
  unfold exN
  rw [List.range_succ, List.flatMap_append]
  simp
theorem mem_exch {N : List NdT} {rs : List (List Nat)} {h i o : Nat} (hl : rs.length = N.length) : (i, o) ∈ exchS N rs h ↔ ∃ n r, N[i]? = some n ∧ rs[i]? = some r ∧ h ∈ r ∧ o ∈ n.2.1 ∧ o ∉ r := by
  unfold exchS exN
  rw [List.mem_flatMap]
  constructor
  · rintro ⟨k, hk, hm⟩
    have hk := List.mem_range.mp hk
    have e1 : rs[k]? = some (rs.getD k []) := by rw [List.getD_eq_getElem?_getD, List.getElem?_eq_getElem hk]; rfl
    have e2 : N[k]? = some (N.getD k (0, [], 0)) := by rw [List.getD_eq_getElem?_getD, List.getElem?_eq_getElem (by omega)]; rfl
    by_cases c : h ∈ rs.getD k []
    · rw [if_pos c] at hm
      obtain ⟨x, hx, e⟩ := List.mem_map.mp hm
      cases e
      obtain ⟨h1, h2⟩ := List.mem_filter.mp hx
      exact ⟨_, _, e2, e1, c, h1, of_decide_eq_true h2⟩
    · rw [if_neg c] at hm
      cases hm
  · rintro ⟨n, r, h1, h2, h3, h4, h5⟩
    have hk := (List.getElem?_eq_some_iff.mp h2).1
    refine ⟨i, List.mem_range.mpr hk, ?_⟩
    have e1 : rs.getD i [] = r := by rw [List.getD_eq_getElem?_getD, h2]; rfl
    have e2 : N.getD i (0, [], 0) = n := by rw [List.getD_eq_getElem?_getD, h1]; rfl
    rw [e1, e2, if_pos h3]
    exact List.mem_map.mpr ⟨o, List.mem_filter.mpr ⟨h4, decide_eq_true h5⟩, rfl⟩
abbrev Fnd := List (Nat × Option (Nat × Nat))
def keyF (f : Fnd) : List Nat := f.map (·.1)
def growS (here : Nat) (f : Fnd) (e : Nat × Nat) : Fnd := if e.2 ∈ keyF f then f else f ++ [(e.2, some (e.1, here))]
def stepF (ex : Nat → List (Nat × Nat)) (f : Fnd) (i : Nat) : Fnd := match f[i]? with
  | some x => (ex x.1).foldl (growS x.1) f
  | none => f
def reachN (ex : Nat → List (Nat × Nat)) (d : Nat) : Nat → Fnd
  | 0 => [(d, none)]
  | i + 1 => stepF ex (reachN ex d i) i
structure FndI (ex : Nat → List (Nat × Nat)) (d w i : Nat) (f : Fnd) : Prop where
  hd : f[0]? = some (d, none)
  il : i ≤ f.length
  nd : (keyF f).Nodup
  lt : ∀ k ∈ keyF f, k < w
  fr : ∀ (j o : Nat) (v : Option (Nat × Nat)), f[j]? = some (o, v) → 0 < j → ∃ n h k v', v = some (n, h) ∧ k < j ∧ f[k]? = some (h, v') ∧ (n, o) ∈ ex h
  dn : ∀ (k : Nat) (x : Nat × Option (Nat × Nat)), k < i → f[k]? = some x → ∀ e ∈ ex x.1, e.2 ∈ keyF f
theorem key_get {f : Fnd} {j o : Nat} {v : Option (Nat × Nat)} (h : f[j]? = some (o, v)) : (keyF f)[j]? = some o := by
  unfold keyF
  rw [List.getElem?_map, h]
  rfl
theorem key_mem {f : Fnd} {j o : Nat} {v : Option (Nat × Nat)} (h : f[j]? = some (o, v)) : o ∈ keyF f := List.mem_of_getElem? (key_get h)
theorem grow_pre (here : Nat) (f : Fnd) (e : Nat × Nat) : ∃ g, growS here f e = f ++ g := by
  unfold growS
  by_cases c : e.2 ∈ keyF f
  · exact ⟨[], by rw [if_pos c, List.append_nil]⟩
  · exact ⟨_, by rw [if_neg c]⟩
theorem grow_in (here : Nat) (f : Fnd) (e : Nat × Nat) : e.2 ∈ keyF (growS here f e) := by
  unfold growS
  by_cases c : e.2 ∈ keyF f
  · rw [if_pos c]; exact c
  · rw [if_neg c]
    unfold keyF
    rw [List.map_append]
    exact List.mem_append_right _ (.head _)
theorem key_app (f g : Fnd) : keyF (f ++ g) = keyF f ++ keyF g := List.map_append
theorem FndI.grow {ex : Nat → List (Nat × Nat)} {d w i : Nat} {f : Fnd} {k here : Nat} {v : Option (Nat × Nat)} {e : Nat × Nat} (h : FndI ex d w i f) (hk : f[k]? = some (here, v)) (he : e ∈ ex here) (hw : e.2 < w) : FndI ex d w i (growS here f e) := by
  unfold growS
  by_cases c : e.2 ∈ keyF f
  · rw [if_pos c]; exact h
  rw [if_neg c]
  have old : ∀ {j : Nat} {x}, f[j]? = some x → (f ++ [(e.2, some (e.1, here))])[j]? = some x := fun {j x} q => by
    rw [List.getElem?_append_left (List.getElem?_eq_some_iff.mp q).1]
    exact q
  refine ⟨old h.hd, by rw [List.length_append]; have := h.il; omega, ?_, ?_, ?_, ?_⟩
  · rw [key_app]
    refine List.nodup_append.mpr ⟨h.nd, (show [e.2].Nodup from List.nodup_cons.mpr ⟨List.not_mem_nil, List.nodup_nil⟩), ?_⟩
    intro a ha b hb e1
    have hb := List.mem_singleton.mp (show b ∈ [e.2] from hb)
    rw [e1, hb] at ha
    exact c ha
  · intro x hx
    rw [key_app] at hx
    rcases List.mem_append.mp hx with hx | hx
    · exact h.lt x hx
    · rw [List.mem_singleton.mp hx]; exact hw
  · intro j o v' hj hj0
    rw [List.getElem?_append] at hj
    by_cases cj : j < f.length
    · rw [if_pos cj] at hj
      obtain ⟨n, h1, k1, v1, e1, e2, e3, e4⟩ := h.fr j o v' hj hj0
      exact ⟨n, h1, k1, v1, e1, e2, old e3, e4⟩
    · rw [if_neg cj] at hj
      cases ej : j - f.length with
      | zero =>
        rw [ej] at hj
        cases hj
        have := (List.getElem?_eq_some_iff.mp hk).1
        exact ⟨e.1, here, k, v, rfl, by omega, old hk, he⟩
      | succ m => rw [ej] at hj; cases hj
  · intro j x hj hx y hy
    rw [key_app]
    rw [List.getElem?_append] at hx
    by_cases cj : j < f.length
    · rw [if_pos cj] at hx
      exact List.mem_append_left _ (h.dn j x hj hx y hy)
    · have := h.il
      omega
theorem fold_pre (here : Nat) : ∀ (L : List (Nat × Nat)) (f : Fnd), ∃ g, L.foldl (growS here) f = f ++ g
  | [], f => ⟨[], (List.append_nil f).symm⟩
  | e :: L, f => by
    obtain ⟨g1, e1⟩ := grow_pre here f e
    obtain ⟨g2, e2⟩ := fold_pre here L (growS here f e)
    exact ⟨g1 ++ g2, by rw [List.foldl_cons, e2, e1, List.append_assoc]⟩
theorem pre_get {f g : Fnd} {j : Nat} {x : Nat × Option (Nat × Nat)} (h : f[j]? = some x) : (f ++ g)[j]? = some x := by
  rw [List.getElem?_append_left (List.getElem?_eq_some_iff.mp h).1]
  exact h
theorem FndI.fold {ex : Nat → List (Nat × Nat)} {d w i k here : Nat} {v : Option (Nat × Nat)} (hw : ∀ e ∈ ex here, e.2 < w) : ∀ (L : List (Nat × Nat)) (f : Fnd), FndI ex d w i f → f[k]? = some (here, v) → (∀ e ∈ L, e ∈ ex here) → FndI ex d w i (L.foldl (growS here) f) ∧ ∀ e ∈ L, e.2 ∈ keyF (L.foldl (growS here) f)
  | [], f, h, _, _ => ⟨h, fun e he => by cases he⟩
  | e :: L, f, h, hk, hL => by
    obtain ⟨g, eg⟩ := grow_pre here f e
    obtain ⟨a, b⟩ := FndI.fold (k := k) hw L (growS here f e) (h.grow hk (hL e (.head _)) (hw e (hL e (.head _)))) (by rw [eg]; exact pre_get hk) fun y hy => hL y (.tail _ hy)
    refine ⟨a, fun y hy => ?_⟩
    rcases List.mem_cons.mp hy with rfl | hy
    · obtain ⟨g2, e2⟩ := fold_pre here L (growS here f y)
      rw [List.foldl_cons, e2, key_app]
      exact List.mem_append_left _ (grow_in here f y)
    · exact b y hy
theorem FndI.step {ex : Nat → List (Nat × Nat)} {d w i : Nat} {f : Fnd} (hw : ∀ h, ∀ e ∈ ex h, e.2 < w) (h : FndI ex d w i f) (hi : i < f.length) : FndI ex d w (i + 1) (stepF ex f i) := by
  obtain ⟨here, v, hk⟩ : ∃ here v, f[i]? = some (here, v) := ⟨_, _, List.getElem?_eq_getElem hi⟩
  unfold stepF
  rw [hk]
  obtain ⟨a, b⟩ := FndI.fold (k := i) (hw here) (ex here) f h hk fun _ z => z
  obtain ⟨g, eg⟩ := fold_pre here (ex here) f
  refine ⟨a.hd, ?_, a.nd, a.lt, a.fr, fun k x hk2 hx2 e he => ?_⟩
  · show i + 1 ≤ ((ex here).foldl (growS here) f).length
    rw [eg, List.length_append]
    omega
  · by_cases c : k < i
    · exact a.dn k x c hx2 e he
    · have : k = i := by omega
      subst this
      have q : ((ex here).foldl (growS here) f)[k]? = some (here, v) := by rw [eg]; exact pre_get hk
      rw [q] at hx2
      cases hx2
      exact b e he
theorem FndI.zero {ex : Nat → List (Nat × Nat)} {d w : Nat} (hd : d < w) : FndI ex d w 0 [(d, none)] where
  hd := rfl
  il := Nat.zero_le _
  nd := List.nodup_cons.mpr ⟨List.not_mem_nil, List.nodup_nil⟩
  lt := fun k hk => by rw [List.mem_singleton.mp (show k ∈ [d] from hk)]; exact hd
  fr := fun j o v hj hj0 => by
    cases j with
    | zero => exact absurd hj0 (Nat.lt_irrefl _)
    | succ j => cases hj
  dn := fun k x hk => absurd hk (Nat.not_lt_zero _)
theorem FndI.len {ex : Nat → List (Nat × Nat)} {d w i : Nat} {f : Fnd} (h : FndI ex d w i f) : f.length ≤ w := by
  have := List.Nodup.length_le_of_subset h.nd (l₂ := List.range w) fun k hk => List.mem_range.mpr (h.lt k hk)
  rw [List.length_range] at this
  unfold keyF at this
  rw [List.length_map] at this
  exact this
theorem reach_ok {ex : Nat → List (Nat × Nat)} {d w : Nat} (hd : d < w) (hw : ∀ h, ∀ e ∈ ex h, e.2 < w) : ∀ i, (∀ k, k < i → k < (reachN ex d k).length) → FndI ex d w i (reachN ex d i)
  | 0, _ => FndI.zero hd
  | i + 1, h => (reach_ok hd hw i fun k hk => h k (by omega)).step hw (h i (by omega))
theorem reach_stop {ex : Nat → List (Nat × Nat)} {d i : Nat} (h : (reachN ex d i).length ≤ i) : ∀ m, reachN ex d (i + m) = reachN ex d i
  | 0 => rfl
  | m + 1 => by
    have ih := reach_stop h m
    show stepF ex (reachN ex d (i + m)) (i + m) = _
    rw [ih]
    unfold stepF
    rw [List.getElem?_eq_none (by omega)]
def reachS (ex : Nat → List (Nat × Nat)) (d w : Nat) : Fnd := reachN ex d w
theorem reach_end {ex : Nat → List (Nat × Nat)} {d w : Nat} (hd : d < w) (hw : ∀ h, ∀ e ∈ ex h, e.2 < w) : ∃ i, i ≤ w ∧ i = (reachS ex d w).length ∧ FndI ex d w i (reachS ex d w) ∧ reachN ex d i = reachS ex d w ∧ ∀ k, k < i → k < (reachN ex d k).length := by
  have main : ∀ m, m ≤ w → (∀ k, k < m → k < (reachN ex d k).length) ∨ ∃ i, i < m ∧ (reachN ex d i).length ≤ i ∧ ∀ k, k < i → k < (reachN ex d k).length := by
    intro m
    induction m with
    | zero => exact fun _ => .inl fun k hk => absurd hk (Nat.not_lt_zero _)
    | succ m ih =>
      intro hm
      rcases ih (by omega) with h | ⟨i, h1, h2, h3⟩
      · by_cases c : m < (reachN ex d m).length
        · exact .inl fun k hk => by
            by_cases e : k = m
            · rw [e]; exact c
            · exact h k (by omega)
        · exact .inr ⟨m, by omega, by omega, h⟩
      · exact .inr ⟨i, by omega, h2, h3⟩
  rcases main w (Nat.le_refl _) with h | ⟨i, h1, h2, h3⟩
  · have q := reach_ok hd hw w h
    have l := q.len
    have l2 := q.il
    exact ⟨w, Nat.le_refl _, by unfold reachS; omega, q, rfl, h⟩
  · have q := reach_ok hd hw i h3
    have e : reachS ex d w = reachN ex d i := by
      have := reach_stop h2 (w - i)
      rw [show i + (w - i) = w from by omega] at this
      exact this
    rw [e]
    have l2 := q.il
    exact ⟨i, by omega, by omega, q, rfl, h3⟩
end Law
set_option maxHeartbeats 1000000
namespace Law
open PySem L2 HC PyProof.Rows
def shS (S : SprS) (n a d : Nat) : SprS := ⟨S.reads.set n (((S.reads.getD n []).erase a) ++ [d]), (S.loads.set a (S.loads.getD a 0 - 1)).set d ((S.loads.set a (S.loads.getD a 0 - 1)).getD d 0 + 1)⟩
def lookF (f : Fnd) (d : Nat) : Option (Nat × Nat) := (f.lookup d).getD none
def shiftN (f : Fnd) : Nat → Nat → SprS → SprS
  | 0, _, S => S
  | k + 1, d, S => match lookF f d with
    | none => S
    | some (n, a) => shiftN f k a (shS S n a d)
theorem look_at {f : Fnd} (nd : (keyF f).Nodup) {j o : Nat} {v : Option (Nat × Nat)} (h : f[j]? = some (o, v)) : f.lookup o = some v := by
  induction f generalizing j with
  | nil => cases h
  | cons x f ih =>
    obtain ⟨n1, n2⟩ := List.nodup_cons.mp (show (x.1 :: keyF f).Nodup from nd)
    obtain ⟨x1, x2⟩ := x
    rw [List.lookup_cons]
    cases j with
    | zero =>
      cases h
      simp
    | succ j =>
      have h : f[j]? = some (o, v) := h
      have : (o == x1) = false := beq_eq_false_iff_ne.mpr fun e => n1 (e ▸ key_mem h)
      rw [this]
      exact ih n2 h
theorem key_inj {f : Fnd} (nd : (keyF f).Nodup) {j k o : Nat} {v u : Option (Nat × Nat)} (h : f[j]? = some (o, v)) (g : f[k]? = some (o, u)) : j = k := by
  have a := key_get h
  have b := key_get g
  exact (List.getElem?_inj (List.getElem?_eq_some_iff.mp a).1 nd).mp (a.trans b.symm)
inductive PathE (f : Fnd) (rs : List (List Nat)) (d0 : Nat) : Nat → Prop
  | root : f[0]? = some (d0, none) → PathE f rs d0 0
  | edge {j k o n h : Nat} {v : Option (Nat × Nat)} {r : List Nat} : f[j]? = some (o, some (n, h)) → k < j → f[k]? = some (h, v) → rs[n]? = some r → h ∈ r → o ∉ r → PathE f rs d0 k → PathE f rs d0 j
theorem path_of {N : List NdT} {rs : List (List Nat)} {d w i : Nat} {f : Fnd} (hl : rs.length = N.length) (F : FndI (exchS N rs) d w i f) : ∀ j, j < f.length → PathE f rs d j := by
  intro j
  induction j using Nat.strongRecOn with
  | _ j ih =>
    intro hj
    by_cases c : j = 0
    · rw [c]; exact .root F.hd
    · obtain ⟨o, v, e⟩ : ∃ o v, f[j]? = some (o, v) := ⟨_, _, List.getElem?_eq_getElem hj⟩
      obtain ⟨n, h, k, v', e1, e2, e3, e4⟩ := F.fr j o v e (by omega)
      subst e1
      obtain ⟨nd, r, a1, a2, a3, a4, a5⟩ := (mem_exch hl).mp e4
      exact .edge e e2 e3 a2 a3 a5 (ih k e2 (by omega))
theorem path_keep {f : Fnd} {rs : List (List Nat)} {d0 j k a d n : Nat} {va vd : Option (Nat × Nat)} {r : List Nat} (nd : (keyF f).Nodup) (hd : f[j]? = some (d, vd)) (ha : f[k]? = some (a, va)) (hkj : k < j) (hr : rs[n]? = some r) {i : Nat} (h : PathE f rs d0 i) : i ≤ k → PathE f (rs.set n (r.erase a ++ [d])) d0 i := by
  induction h with
  | root h => exact fun _ => .root h
  | @edge j' k' o m h' v r' h1 h2 h3 h4 h5 h6 _ ih =>
    intro hi
    have hne : h' ≠ a := fun e => by
      have := key_inj nd h3 (by rw [e]; exact ha)
      omega
    have hno : o ≠ d := fun e => by
      have := key_inj nd h1 (by rw [e]; exact hd)
      omega
    by_cases c : m = n
    · subst c
      rw [hr] at h4
      cases h4
      refine .edge (r := r.erase a ++ [d]) h1 h2 h3 ?_ ?_ ?_ (ih (by omega))
      · rw [List.getElem?_set_self (List.getElem?_eq_some_iff.mp hr).1]
      · exact List.mem_append_left _ ((List.mem_erase_of_ne hne).mpr h5)
      · intro z
        rcases List.mem_append.mp z with z | z
        · exact h6 (List.mem_of_mem_erase z)
        · exact hno (List.mem_singleton.mp z)
    · refine .edge (r := r') h1 h2 h3 ?_ h5 h6 (ih (by omega))
      rw [List.getElem?_set_ne (Ne.symm c)]
      exact h4
theorem cnt_set {rs : List (List Nat)} {n : Nat} {r r' : List Nat} (h : rs[n]? = some r) (x : Nat) : cntS (rs.set n r') x + (if x ∈ r then 1 else 0) = cntS rs x + if x ∈ r' then 1 else 0 := by
  unfold cntS
  induction rs generalizing n with
  | nil => cases h
  | cons y rs ih =>
    cases n with
    | zero =>
      cases h
      rw [List.set_cons_zero, List.countP_cons, List.countP_cons]
      by_cases c1 : x ∈ r <;> by_cases c2 : x ∈ r' <;> simp [c1, c2]
    | succ n =>
      have h : rs[n]? = some r := h
      have := ih h
      rw [List.set_cons_succ, List.countP_cons, List.countP_cons]
      omega
theorem mem_ex {r : List Nat} {a d : Nat} (nr : r.Nodup) (ha : a ∈ r) (hd : d ∉ r) (x : Nat) : x ∈ r.erase a ++ [d] ↔ x = d ∨ (x ∈ r ∧ x ≠ a) := by
  rw [List.mem_append, List.mem_singleton, List.Nodup.mem_erase_iff nr]
  exact ⟨fun z => z.elim (fun y => .inr ⟨y.2, y.1⟩) .inl, fun z => z.elim .inr fun y => .inl ⟨y.2, y.1⟩⟩
theorem SprI.sh {N : List NdT} {w : Nat} {S : SprS} {n a d : Nat} {nn : NdT} {r : List Nat} (h : SprI N w S) (hN : N[n]? = some nn) (hr : S.reads[n]? = some r) (ha : a ∈ r) (hd : d ∉ r) (hdn : d ∈ nn.2.1) (aw : a < w) (dw : d < w) :
    SprI N w (shS S n a d) ∧ ∀ x, (shS S n a d).loads.getD x 0 + (if x = a then 1 else 0) = S.loads.getD x 0 + if x = d then 1 else 0 := by
  obtain ⟨r1, r2, r3⟩ := h.rd n nn r hN hr
  have hne : a ≠ d := fun e => hd (e ▸ ha)
  have gr : S.reads.getD n [] = r := by rw [List.getD_eq_getElem?_getD, hr]; rfl
  have apos : 0 < S.loads.getD a 0 := by
    rw [h.lc a aw]
    unfold cntS
    rw [List.countP_pos_iff]
    exact ⟨r, List.mem_of_getElem? hr, decide_eq_true ha⟩
  have gl : ∀ x, (shS S n a d).loads.getD x 0 = if x = d then S.loads.getD d 0 + 1 else if x = a then S.loads.getD a 0 - 1 else S.loads.getD x 0 := fun x => by
    unfold shS
    simp only []
    rw [set_getS _ _ _ _ (by rw [List.length_set, h.ll]; exact dw), set_getS _ _ _ _ (by rw [h.ll]; exact aw), set_getS _ _ _ _ (by rw [h.ll]; exact aw), if_neg hne.symm]
  have gx : ∀ x, (shS S n a d).loads.getD x 0 + (if x = a then 1 else 0) = S.loads.getD x 0 + if x = d then 1 else 0 := fun x => by
    rw [gl]
    by_cases c1 : x = d
    · rw [if_pos c1, if_pos c1, if_neg (fun e => hne (e.symm.trans c1)), c1]
    · rw [if_neg c1, if_neg c1]
      by_cases c2 : x = a
      · rw [if_pos c2, if_pos c2, c2]
        omega
      · rw [if_neg c2, if_neg c2]
  refine ⟨⟨?_, ?_, ?_, ?_⟩, gx⟩
  · show (S.reads.set n _).length = _
    rw [List.length_set]; exact h.rl
  · intro i n' r' h1 h2
    have h2 : (S.reads.set n ((S.reads.getD n []).erase a ++ [d]))[i]? = some r' := h2
    rw [gr] at h2
    by_cases c : n = i
    · subst c
      rw [List.getElem?_set_self (List.getElem?_eq_some_iff.mp hr).1] at h2
      cases h2
      rw [hN] at h1
      cases h1
      refine ⟨?_, fun x hx => ?_, ?_⟩
      · refine List.nodup_append.mpr ⟨r1.erase a, (show [d].Nodup from List.nodup_cons.mpr ⟨List.not_mem_nil, List.nodup_nil⟩), ?_⟩
        intro x hx y hy e
        rw [e, List.mem_singleton.mp hy] at hx
        exact hd (List.mem_of_mem_erase hx)
      · rcases (mem_ex r1 ha hd x).mp hx with e | e
        · rw [e]; exact hdn
        · exact r2 x e.1
      · rw [List.length_append, List.length_erase_of_mem ha, List.length_singleton, ← r3]
        have := List.length_pos_of_mem ha
        omega
    · rw [List.getElem?_set_ne c] at h2
      exact h.rd i n' r' h1 h2
  · show ((S.loads.set a _).set d _).length = w
    rw [List.length_set, List.length_set]; exact h.ll
  · intro x hx
    have e1 := gx x
    have e2 := cnt_set (r' := r.erase a ++ [d]) hr x
    have e3 := h.lc x hx
    have m1 := mem_ex r1 ha hd x
    show (shS S n a d).loads.getD x 0 = cntS (S.reads.set n ((S.reads.getD n []).erase a ++ [d])) x
    rw [gr]
    by_cases c1 : x = d
    · rw [if_pos c1, if_neg (fun e => hne (e.symm.trans c1))] at e1
      rw [if_neg (by rw [c1]; exact hd), if_pos (m1.mpr (.inl c1))] at e2
      omega
    · rw [if_neg c1] at e1
      by_cases c2 : x = a
      · rw [if_pos c2] at e1
        rw [if_pos (by rw [c2]; exact ha), if_neg (fun z => (m1.mp z).elim c1 fun y => y.2 c2)] at e2
        omega
      · rw [if_neg c2] at e1
        have : (x ∈ r.erase a ++ [d]) ↔ x ∈ r := m1.trans ⟨fun z => (z.resolve_left c1).1, fun z => .inr ⟨z, c2⟩⟩
        simp only [this] at e2
        omega
theorem shift_ok {N : List NdT} {w d0 : Nat} {f : Fnd} (hN : NdOk N w) (nd : (keyF f).Nodup) (kw : ∀ k ∈ keyF f, k < w) (hed : ∀ (j o n h : Nat), f[j]? = some (o, some (n, h)) → ∃ nn, N[n]? = some nn ∧ o ∈ nn.2.1) :
    ∀ (m j d : Nat) (v : Option (Nat × Nat)) (S : SprS), SprI N w S → PathE f S.reads d0 j → f[j]? = some (d, v) → j < m → SprI N w (shiftN f m d S) ∧ ∀ x, (shiftN f m d S).loads.getD x 0 + (if x = d0 then 1 else 0) = S.loads.getD x 0 + if x = d then 1 else 0
  | 0, _, _, _, _, _, _, _, hm => absurd hm (Nat.not_lt_zero _)
  | m + 1, j, d, v, S, I, P, hj, hm => by
    have el : f.lookup d = some v := look_at nd hj
    unfold shiftN lookF
    rw [el]
    cases P with
    | root h =>
      rw [h] at hj
      cases hj
      exact ⟨I, fun x => rfl⟩
    | @edge _ k o n h v' r h1 h2 h3 h4 h5 h6 hp =>
      rw [h1] at hj
      cases hj
      obtain ⟨nn, e1, e2⟩ := hed j d n h h1
      obtain ⟨I2, g⟩ := I.sh e1 h4 h5 h6 e2 (kw _ (key_mem h3)) (kw _ (key_mem h1))
      have gr : S.reads.getD n [] = r := by rw [List.getD_eq_getElem?_getD, h4]; rfl
      have P2 : PathE f (shS S n h d).reads d0 k := by
        show PathE f (S.reads.set n ((S.reads.getD n []).erase h ++ [d])) d0 k
        rw [gr]
        exact path_keep nd h1 h3 h2 h4 hp (Nat.le_refl _)
      obtain ⟨a, b⟩ := shift_ok hN nd kw hed m k h v' (shS S n h d) I2 P2 h3 (by omega)
      refine ⟨a, fun x => ?_⟩
      have q1 := b x
      have q2 := g x
      show (shiftN f m h (shS S n h d)).loads.getD x 0 + _ = _
      omega
end Law
set_option maxHeartbeats 1000000
namespace Law
open PySem L2 HC PyProof.Rows
def topS : List Nat → Nat
  | [] => 0
  | x :: l => max x (topS l)
theorem top_le : ∀ {l : List Nat} {x : Nat}, x ∈ l → x ≤ topS l
  | y :: l, x, h => by
    rcases List.mem_cons.mp h with e | h
    · rw [e]; exact Nat.le_max_left _ _
    · exact Nat.le_trans (top_le h) (Nat.le_max_right _ _)
theorem top_mem : ∀ {l : List Nat}, l ≠ [] → topS l ∈ l
  | [], h => absurd rfl h
  | [x], _ => by
    show max x 0 ∈ [x]
    rw [Nat.max_zero]; exact .head _
  | x :: y :: l, _ => by
    have ih := top_mem (l := y :: l) (by simp)
    show max x (topS (y :: l)) ∈ _
    rcases Nat.le_total x (topS (y :: l)) with h | h
    · rw [Nat.max_eq_right h]; exact .tail _ ih
    · rw [Nat.max_eq_left h]; exact .head _
def busyS (S : SprS) : Nat := S.loads.idxOf (topS S.loads)
def foundS (N : List NdT) (w : Nat) (S : SprS) : Fnd := reachS (exchS N S.reads) (busyS S) w
def lessS (S : SprS) (f : Fnd) : List Nat := (keyF f).filter fun k => decide (S.loads.getD k 0 + 1 < topS S.loads)
def easedS (N : List NdT) (w : Nat) (S : SprS) : SprS ⊕ List Nat := match lessS S (foundS N w S) with
  | [] => .inr (sortN (keyF (foundS N w S)))
  | d :: _ => .inl (shiftN (foundS N w S) (foundS N w S).length d S)
def runS (N : List NdT) (w : Nat) : Nat → SprS → SprS × List Nat
  | 0, S => (S, [])
  | m + 1, S => match easedS N w S with
    | .inr p => (S, p)
    | .inl S' => runS N w m S'
def sqS (l : List Nat) : Nat := (l.map fun x => x * x).sum
structure CertS (N : List NdT) (w : Nat) (S : SprS) (p : List Nat) : Prop where
  up : p.Pairwise (· < ·)
  lt : ∀ d ∈ p, d < w
  top : ∃ d ∈ p, S.loads.getD d 0 = topS S.loads
  near : ∀ d ∈ p, topS S.loads ≤ S.loads.getD d 0 + 1
  cl : ∀ (i : Nat) (n : NdT) (r : List Nat) (h o : Nat), N[i]? = some n → S.reads[i]? = some r → h ∈ p → h ∈ r → o ∈ n.2.1 → o ∉ r → o ∈ p
theorem SprI.busy {N : List NdT} {w : Nat} {S : SprS} (I : SprI N w S) (hw : 0 < w) : busyS S < w ∧ S.loads.getD (busyS S) 0 = topS S.loads := by
  have hm : topS S.loads ∈ S.loads := top_mem fun e => by have := I.ll; rw [e] at this; simp at this; omega
  have hl := List.idxOf_lt_length_of_mem hm
  refine ⟨I.ll ▸ hl, ?_⟩
  unfold busyS
  rw [List.getD_eq_getElem?_getD, List.getElem?_eq_getElem hl]
  exact List.getElem_idxOf hl
theorem ex_lt {N : List NdT} {w : Nat} {S : SprS} (ok : NdOk N w) (I : SprI N w S) : ∀ h, ∀ e ∈ exchS N S.reads h, e.2 < w := by
  rintro h ⟨n, o⟩ he
  obtain ⟨nn, r, h1, h2, h3, h4, h5⟩ := (mem_exch I.rl).mp he
  exact (ok.nd nn (List.mem_of_getElem? h1)).2.1 o h4
theorem found_ok {N : List NdT} {w : Nat} {S : SprS} (ok : NdOk N w) (I : SprI N w S) (hw : 0 < w) : FndI (exchS N S.reads) (busyS S) w (foundS N w S).length (foundS N w S) := by
  obtain ⟨i, h1, h2, h3, _⟩ := reach_end (I.busy hw).1 (ex_lt ok I)
  have h2 : i = (foundS N w S).length := h2
  rw [← h2]
  exact h3
theorem eased_end {N : List NdT} {w : Nat} {S : SprS} {p : List Nat} (ok : NdOk N w) (I : SprI N w S) (hw : 0 < w) (h : easedS N w S = .inr p) : CertS N w S p := by
  have F := found_ok ok I hw
  obtain ⟨b1, b2⟩ := I.busy hw
  unfold easedS at h
  cases e : lessS S (foundS N w S) with
  | cons d l => rw [e] at h; cases h
  | nil =>
    rw [e] at h
    cases h
    refine ⟨sortN_lt F.nd, fun d hd => F.lt d (mem_sortN.mp hd), ⟨_, mem_sortN.mpr (key_mem F.hd), b2⟩, fun d hd => ?_, fun i n r h o h1 h2 h3 h4 h5 h6 => ?_⟩
    · have : d ∉ lessS S (foundS N w S) := by rw [e]; exact List.not_mem_nil
      unfold lessS at this
      rw [List.mem_filter] at this
      have hd := mem_sortN.mp hd
      rcases Nat.lt_or_ge (S.loads.getD d 0 + 1) (topS S.loads) with q | q
      · exact absurd ⟨hd, decide_eq_true q⟩ this
      · exact q
    · refine mem_sortN.mpr ?_
      have h3 := mem_sortN.mp h3
      obtain ⟨x, hx, ex⟩ := List.mem_map.mp h3
      obtain ⟨k, hk, hk2⟩ := List.mem_iff_getElem.mp hx
      exact F.dn k x hk (by rw [List.getElem?_eq_getElem hk, hk2]) (i, o) ((mem_exch I.rl).mpr ⟨n, r, h1, h2, by rw [ex]; exact h4, h5, h6⟩)
theorem sq_set : ∀ (l : List Nat) (i v : Nat), i < l.length → sqS (l.set i v) + l.getD i 0 * l.getD i 0 = sqS l + v * v
  | x :: l, 0, v, _ => by
    show (v * v + sqS l) + x * x = (x * x + sqS l) + v * v
    omega
  | x :: l, i + 1, v, h => by
    have ih := sq_set l i v (Nat.lt_of_succ_lt_succ h)
    show (x * x + sqS (l.set i v)) + l.getD i 0 * l.getD i 0 = (x * x + sqS l) + v * v
    omega
theorem ext_getD {l m : List Nat} (h : l.length = m.length) (g : ∀ x, l.getD x 0 = m.getD x 0) : l = m := by
  refine List.ext_getElem h fun i h1 h2 => ?_
  have := g i
  rw [List.getD_eq_getElem?_getD, List.getD_eq_getElem?_getD, List.getElem?_eq_getElem h1, List.getElem?_eq_getElem h2] at this
  exact this
theorem sq_less {l m : List Nat} {a d : Nat} (h : m.length = l.length) (ha : a < l.length) (hd : d < l.length) (hl : l.getD d 0 + 1 < l.getD a 0) (g : ∀ x, m.getD x 0 + (if x = a then 1 else 0) = l.getD x 0 + if x = d then 1 else 0) : sqS m < sqS l := by
  have hne : d ≠ a := fun e => by rw [e] at hl; omega
  have e : m = (l.set a (l.getD a 0 - 1)).set d (l.getD d 0 + 1) := by
    refine ext_getD (by rw [List.length_set, List.length_set]; exact h) fun x => ?_
    rw [set_getS _ _ _ _ (by rw [List.length_set]; exact hd), set_getS _ _ _ _ ha]
    have := g x
    by_cases c1 : x = d
    · rw [if_pos c1, if_neg (fun e => hne (c1.symm.trans e))] at this
      rw [if_pos c1]
      rw [c1] at this ⊢
      omega
    · rw [if_neg c1] at this ⊢
      by_cases c2 : x = a
      · rw [if_pos c2] at this ⊢
        rw [c2] at this ⊢
        omega
      · rw [if_neg c2] at this ⊢
        omega
  have s1 := sq_set l a (l.getD a 0 - 1) ha
  have s2 := sq_set (l.set a (l.getD a 0 - 1)) d (l.getD d 0 + 1) (by rw [List.length_set]; exact hd)
  rw [← e, set_getS _ _ _ _ ha, if_neg hne] at s2
  generalize l.getD a 0 = t at *
  generalize l.getD d 0 = u at *
  obtain ⟨s, rfl⟩ : ∃ s, t = s + 1 := ⟨t - 1, by omega⟩
  rw [Nat.add_sub_cancel] at s1 s2
  have x1 : (s + 1) * (s + 1) = s * s + 2 * s + 1 := by rw [Nat.add_mul, Nat.mul_add]; omega
  have x2 : (u + 1) * (u + 1) = u * u + 2 * u + 1 := by rw [Nat.add_mul, Nat.mul_add]; omega
  rw [Nat.add_sub_cancel] at e
  omega
theorem eased_on {N : List NdT} {w : Nat} {S S' : SprS} (ok : NdOk N w) (I : SprI N w S) (hw : 0 < w) (h : easedS N w S = .inl S') : SprI N w S' ∧ sqS S'.loads < sqS S.loads := by
  have F := found_ok ok I hw
  obtain ⟨b1, b2⟩ := I.busy hw
  unfold easedS at h
  cases e : lessS S (foundS N w S) with
  | nil => rw [e] at h; cases h
  | cons d l =>
    rw [e] at h
    cases h
    have hd : d ∈ lessS S (foundS N w S) := by rw [e]; exact .head _
    unfold lessS at hd
    obtain ⟨hk, hl⟩ := List.mem_filter.mp hd
    have hl := of_decide_eq_true hl
    obtain ⟨x, hx, ex⟩ := List.mem_map.mp hk
    obtain ⟨j, hj, hj2⟩ := List.mem_iff_getElem.mp hx
    obtain ⟨d', v⟩ := x
    have ex : d' = d := ex
    subst ex
    have hj3 : (foundS N w S)[j]? = some (d', v) := by rw [List.getElem?_eq_getElem hj, hj2]
    obtain ⟨a, b⟩ := shift_ok (d0 := busyS S) ok F.nd F.lt (fun j o n h q => by
      have hj0 : 0 < j := by
        cases j with
        | zero => rw [F.hd] at q; cases q
        | succ j => exact Nat.succ_pos _
      obtain ⟨n', h', k, v', e1, _, _, e4⟩ := F.fr j o _ q hj0
      cases e1
      obtain ⟨nn, r, h1, _, _, h4, _⟩ := (mem_exch I.rl).mp e4
      exact ⟨nn, h1, h4⟩) (foundS N w S).length j d' v S I (path_of I.rl F j hj) hj3 hj
    exact ⟨a, sq_less (a.ll.trans I.ll.symm) (I.ll ▸ b1) (by rw [I.ll]; exact F.lt _ (key_mem hj3)) (by rw [b2]; exact hl) b⟩
theorem run_ok {N : List NdT} {w : Nat} (ok : NdOk N w) (hw : 0 < w) : ∀ (m : Nat) (S : SprS), SprI N w S → sqS S.loads < m → SprI N w (runS N w m S).1 ∧ CertS N w (runS N w m S).1 (runS N w m S).2
  | 0, _, _, h => absurd h (Nat.not_lt_zero _)
  | m + 1, S, I, h => by
    unfold runS
    cases e : easedS N w S with
    | inr p => exact ⟨I, eased_end ok I hw e⟩
    | inl S' =>
      obtain ⟨a, b⟩ := eased_on ok I hw e
      exact run_ok ok hw m S' a (by omega)
def spreadS (N : List NdT) (w : Nat) : SprS × List Nat := runS N w (sqS (initS N w).loads + 1) (initS N w)
def planS (N : List NdT) (S : SprS) : List (Nat × List Nat) := (List.range N.length).map fun i => ((N.getD i (0, [], 0)).1, sortN (S.reads.getD i []))
theorem spread_ok {N : List NdT} {w : Nat} (ok : NdOk N w) (hw : 0 < w) : SprI N w (spreadS N w).1 ∧ CertS N w (spreadS N w).1 (spreadS N w).2 := by
  have := init_ok ok N.length
  rw [List.take_length] at this
  exact run_ok ok hw _ _ this (Nat.lt_succ_self _)
end Law
namespace Law
open PySem L2 HC PyProof.Rows
def Pn : Nat → Dv → Prop
  | _, .non => True
  | _, .bl _ => True
  | _, .int _ => True
  | _, .str x => PyData.canLay0 (.str x) = true
  | n + 1, .tup xs => xs.length ≤ sizeLine ∧ ∀ d ∈ xs, Pn n d
  | n + 1, .rol xs => xs.length ≤ sizeLine ∧ ∀ d ∈ xs, Pn n d
  | _, _ => False
theorem Pn.up : ∀ {n : Nat} {d : Dv}, Pn n d → Pn (n + 1) d
  | 0, .non, _ => trivial
  | 0, .bl _, _ => trivial
  | 0, .int _, _ => trivial
  | 0, .str _, h => h
  | n + 1, .non, _ => trivial
  | n + 1, .bl _, _ => trivial
  | n + 1, .int _, _ => trivial
  | n + 1, .str _, h => h
  | n + 1, .tup xs, h => ⟨h.1, fun d hd => Pn.up (h.2 d hd)⟩
  | n + 1, .rol xs, h => ⟨h.1, fun d hd => Pn.up (h.2 d hd)⟩
abbrev Blk := List Nat
structure Head where
  par : Nat
  size : Nat
  rows : Nat
  width : Nat
  moved : Nat
  spares : Nat
def Head.d (h : Head) : Dv := .tup [dn h.par, dn h.size, dn h.rows, dn h.width, dn h.moved, dn h.spares]
structure Head.Ok (h : Head) (many : Nat) : Prop where
  par1 : 1 ≤ h.par
  par2 : h.par ≤ 2
  size1 : 1 ≤ h.size
  size2 : h.size ≤ 16
  rows1 : 1 ≤ h.rows
  rows2 : h.rows ≤ 24
  width1 : h.par + 1 ≤ h.width
  width2 : h.width ≤ 10
  many : (many = h.width ∧ h.moved = 0) ∨ (many = h.width + 1 ∧ many ≤ 10 ∧ h.moved < h.rows)
  sp : h.spares ≤ 1000000
theorem headOk {par size rows width moved spares many : Nat} (h1 : 1 ≤ par) (h2 : par ≤ 2) (h3 : 1 ≤ size) (h4 : size ≤ 16) (h5 : 1 ≤ rows) (h6 : rows ≤ 24) (h7 : par + 1 ≤ width) (h8 : width ≤ 10)
    (h9 : (many = width ∧ moved = 0) ∨ (many = width + 1 ∧ many ≤ 10 ∧ moved < rows)) (h10 : spares ≤ 1000000) : (⟨par, size, rows, width, moved, spares⟩ : Head).Ok many := ⟨h1, h2, h3, h4, h5, h6, h7, h8, h9, h10⟩
def bD (b : Blk) : Dv := .tup (b.map fun n => dn n)
def oD : Option Blk → Dv
  | none => .non
  | some b => bD b
abbrev Disk := Option (List (Option Blk))
def kD : Disk → Dv
  | none => .non
  | some bs => .tup (bs.map oD)
inductive Note where
  | block (disk row : Nat) (b : Blk)
  | fin (many width moved : Nat)
def nD : Note → Dv
  | .block disk row b => .tup [.str ("block" : Str), dn disk, dn row, bD b]
  | .fin many width moved => .tup [.str ("end" : Str), dn many, dn width, dn moved]
structure Store where
  head : Head
  disks : List Disk
  journal : List Note
def Store.d (s : Store) : Dv := .tup [s.head.d, .tup (s.disks.map kD), .tup (s.journal.map nD)]
def BlkOk' (b : Blk) (size : Nat) : Prop := b.length = size ∧ ∀ x ∈ b, x < 256
def DiskOk (k : Disk) (size rows : Nat) : Prop := ∀ bs, k = some bs → bs.length = rows ∧ ∀ o ∈ bs, ∀ b, o = some b → BlkOk' b size
def WidthsOk (w m par rows many : Nat) : Prop := par + 1 ≤ w ∧ w ≤ 10 ∧ ((many = w ∧ m = 0) ∨ (many = w + 1 ∧ many ≤ 10 ∧ m < rows))
def NoteOk (h : Head) (many : Nat) (i : Nat) (last : Bool) : Note → Prop
  | .block disk row b => disk < many ∧ row < h.rows ∧ BlkOk' b h.size
  | .fin k w m => last = true ∧ k = i ∧ WidthsOk w m h.par h.rows many
structure Store.Ok (s : Store) : Prop where
  head : s.head.Ok s.disks.length
  disks : ∀ k ∈ s.disks, DiskOk k s.head.size s.head.rows
  journal : ∀ i n, s.journal[i]? = some n → NoteOk s.head s.disks.length i (decide (i + 1 = s.journal.length)) n
def newS (par size rows width spares : Nat) : Store := ⟨⟨par, size, rows, width, 0, spares⟩, List.replicate width (some (List.replicate rows (some (List.replicate size 0)))), []⟩
structure Store.Fit (s : Store) : Prop where
  disks : s.disks.length ≤ 1000000
  journal : s.journal.length ≤ 1000000
  rows : ∀ k ∈ s.disks, ∀ bs, k = some bs → bs.length ≤ 1000000 ∧ ∀ o ∈ bs, ∀ b, o = some b → b.length ≤ 1000000
  notes : ∀ n ∈ s.journal, ∀ i r b, n = .block i r b → b.length ≤ 1000000
def Store.wide (s : Store) (row : Nat) : Nat := s.head.width + (if row < s.head.moved then 1 else 0)
def Store.cell (s : Store) (disk row : Nat) : Option Blk := match s.disks.getD disk none with
  | none => none
  | some bs => bs.getD row none
def Store.row (s : Store) (row : Nat) : List (Option Blk) := (List.range (s.wide row)).map fun j => s.cell ((row + j) % s.wide row) row
theorem Store.row_len {s : Store} {row : Nat} : (s.row row).length = s.wide row := by simp [Store.row]
theorem Store.Ok.wide_le {s : Store} (h : s.Ok) (row : Nat) : s.wide row ≤ s.disks.length := by
  have := h.head.many
  unfold Store.wide
  split <;> omega
theorem Store.Ok.wide_pos {s : Store} (h : s.Ok) (row : Nat) : s.head.par < s.wide row := by
  have := h.head.width1
  unfold Store.wide
  omega
theorem Store.Ok.many_le {s : Store} (h : s.Ok) : s.disks.length ≤ 10 := by
  have := h.head.many
  have := h.head.width2
  omega
theorem Store.Ok.wide_ten {s : Store} (h : s.Ok) (row : Nat) : s.wide row ≤ 10 := Nat.le_trans (h.wide_le row) h.many_le
theorem disk_at {s : Store} {i : Nat} (h : i < s.disks.length) : (s.disks.map kD)[i]? = some (kD (s.disks.getD i none)) := by
  rw [List.getElem?_map, List.getElem?_eq_getElem h]
  simp [List.getD, h]
theorem Store.Ok.disk {s : Store} (h : s.Ok) {i : Nat} : DiskOk (s.disks.getD i none) s.head.size s.head.rows := by
  by_cases hi : i < s.disks.length
  · have : s.disks.getD i none ∈ s.disks := by
      rw [List.getD_eq_getElem?_getD, List.getElem?_eq_getElem hi]
      exact List.getElem_mem hi
    exact h.disks _ this
  · rw [List.getD_eq_getElem?_getD, List.getElem?_eq_none (by omega)]
    exact fun bs e => nomatch e
theorem cell_lost {s : Store} {i row : Nat} (h : s.disks.getD i none = none) : s.cell i row = none := by
  unfold Store.cell; rw [h]
theorem cell_there {s : Store} {i row : Nat} {bs : List (Option Blk)} (h : s.disks.getD i none = some bs) : s.cell i row = bs.getD row none := by
  unfold Store.cell; rw [h]
theorem block_at' {bs : List (Option Blk)} {row : Nat} (h : row < bs.length) : (bs.map oD)[row]? = some (oD (bs.getD row none)) := by
  rw [List.getElem?_map, List.getElem?_eq_getElem h]
  simp [List.getD, h]
def Store.kept (s : Store) : Nat := s.head.rows * (s.head.width - s.head.par)
end Law
namespace Law
open PySem L2 HC PyProof.Rows
theorem Pn.le {n : Nat} {d : Dv} (h : Pn n d) : ∀ k, Pn (n + k) d
  | 0 => h
  | k + 1 => Pn.up (Pn.le h k)
structure BigOk (s : Store) : Prop where
  ok : s.Ok
  len : s.journal.length ≤ 10
  rows : 2 ≤ s.head.rows
  width : s.head.par + 2 ≤ s.head.width
  first : ∃ bs : List Blk, s.disks.getD 0 none = some (bs.map some) ∧ bs.length = s.head.rows ∧ ∀ b ∈ bs, BlkOk' b s.head.size
end Law
namespace Law
open PySem L2 HC PyProof.Rows
inductive Chg where
  | note (n : Note)
  | block (d r : Nat) (b : Blk)
  | spoil (d r : Nat) (b : Blk)
  | head (w m : Nat)
  | clear
  | add
  | lose (d : Nat)
  | bad (d r : Nat)
  | spare (d : Nat)
def freshK (h : Head) : Disk := some (List.replicate h.rows none)
def lessH (h : Head) : Head := ⟨h.par, h.size, h.rows, h.width, h.moved, h.spares - 1⟩
def Store.setCell (s : Store) (d r : Nat) (o : Option Blk) : Store := match s.disks.getD d none with
  | none => s
  | some bs => ⟨s.head, s.disks.set d (some (bs.set r o)), s.journal⟩
def applyC (s : Store) : Chg → Store
  | .note n => ⟨s.head, s.disks, s.journal ++ [n]⟩
  | .block d r b => s.setCell d r (some b)
  | .spoil d r b => s.setCell d r (some b)
  | .head w m => ⟨⟨s.head.par, s.head.size, s.head.rows, w, m, s.head.spares⟩, s.disks, s.journal⟩
  | .clear => ⟨s.head, s.disks, []⟩
  | .add => ⟨lessH s.head, s.disks ++ [freshK s.head], s.journal⟩
  | .lose d => ⟨s.head, s.disks.set d none, s.journal⟩
  | .bad d r => s.setCell d r none
  | .spare d => ⟨lessH s.head, s.disks.set d (freshK s.head), s.journal⟩
def noteLen : Note → Nat
  | .block _ _ b => b.length
  | .fin _ _ _ => 0
structure SC (s : Store) (n : Nat) : Prop where
  d1 : 1 ≤ s.disks.length
  d2 : s.disks.length ≤ 10 + n
  r1 : 1 ≤ s.head.rows
  r2 : s.head.rows ≤ 24
  z2 : s.head.size ≤ 16
  rows : ∀ k ∈ s.disks, ∀ bs, k = some bs → bs.length = s.head.rows ∧ ∀ o ∈ bs, ∀ b, o = some b → b.length ≤ 16
  j : s.journal.length ≤ 20 + n
  notes : ∀ x ∈ s.journal, noteLen x ≤ 16
def CV (s : Store) : Chg → Prop
  | .note n => noteLen n ≤ 16
  | .block d r b => d < s.disks.length ∧ r < s.head.rows ∧ b.length ≤ 16
  | .spoil d r b => d < s.disks.length ∧ r < s.head.rows ∧ b.length ≤ 16
  | .head _ _ => True
  | .clear => True
  | .add => 1 ≤ s.head.spares
  | .lose d => d < s.disks.length
  | .bad d r => d < s.disks.length ∧ r < s.head.rows
  | .spare d => d < s.disks.length ∧ 1 ≤ s.head.spares
def CVs (s : Store) : List Chg → Prop
  | [] => True
  | c :: cs => CV s c ∧ CVs (applyC s c) cs
theorem SC.up {s : Store} {n : Nat} (h : SC s n) (m : Nat) : SC s (n + m) := ⟨h.d1, by have := h.d2; omega, h.r1, h.r2, h.z2, h.rows, by have := h.j; omega, h.notes⟩
theorem cvs_snoc : ∀ {cs : List Chg} {s : Store} {c : Chg}, CVs s cs → CV (cs.foldl applyC s) c → CVs s (cs ++ [c])
  | [], _, _, _, v => ⟨v, trivial⟩
  | d :: cs, s, c, h, v => ⟨h.1, cvs_snoc h.2 v⟩
theorem c_to (xs : List Dv) (k : Nat) (h : k ≤ xs.length) : cutA xs none (some (k : Int)) = xs.take k := by
  unfold cutA
  have e : HT.sIx xs.length xs.length (some (k : Int)) = k := by
    show (if (k : Int) < 0 then ((k : Int) + (xs.length : Int)).toNat else min (k : Int).toNat xs.length) = _
    rw [if_neg (by omega)]
    omega
  rw [e]
  show (xs.drop 0).take (k - 0) = _
  rfl
def firstD : Dv → Dv
  | .tup (x :: _) => x
  | _ => .non
abbrev BN := Nat × Nat × Blk
def noteB' (x : BN) : Note := .block x.1 x.2.1 x.2.2
def chgB (x : BN) : Chg := .block x.1 x.2.1 x.2.2
theorem setCell_len (s : Store) (d r : Nat) (o : Option Blk) : (s.setCell d r o).disks.length = s.disks.length ∧ (s.setCell d r o).head = s.head := by
  unfold Store.setCell
  split
  · exact ⟨rfl, rfl⟩
  · exact ⟨List.length_set, rfl⟩
def BOk (n rows : Nat) (xs : List BN) : Prop := ∀ x ∈ xs, x.1 < n ∧ x.2.1 < rows ∧ x.2.2.length ≤ 16
theorem cvs_blocks {cs : List Chg} : ∀ {xs : List BN} {s : Store}, BOk s.disks.length s.head.rows xs → (∀ t : Store, CVs t cs) → CVs s (xs.map chgB ++ cs)
  | [], s, _, h => h s
  | x :: xs, s, hb, h => by
    refine ⟨hb x List.mem_cons_self, cvs_blocks (xs := xs) (s := applyC s (chgB x)) ?_ h⟩
    obtain ⟨h1, h2⟩ := setCell_len s x.1 x.2.1 (some x.2.2)
    show BOk (s.setCell x.1 x.2.1 (some x.2.2)).disks.length (s.setCell x.1 x.2.1 (some x.2.2)).head.rows xs
    rw [h1, h2]
    exact fun y hy => hb y (List.mem_cons_of_mem _ hy)
end Law
namespace Law
open PySem L2 HC PyProof.Rows
def spD (x : Nat × Nat) : Dv := .tup [dn x.1, dn x.2]
def lay (k n : Nat) : Nat × Nat := (n / k, n % k)
def Store.spotN (s : Store) (n : Nat) : Nat × Nat := if n / (s.head.width + 1 - s.head.par) < s.head.moved then lay (s.head.width + 1 - s.head.par) n else lay (s.head.width - s.head.par) n
end Law
namespace GF
def xt (a : Nat) : Nat := (a * 2) ^^^ (if a.testBit 7 then 285 else 0)
def G : Nat → Nat → Nat → Nat
  | 0, _, _ => 0
  | n + 1, a, b => (if b.testBit 0 then a else 0) ^^^ G n (xt a) (b / 2)
abbrev gt (a b : Nat) : Nat := G 8 a b
def Lin (f : Nat → Nat) : Prop := ∀ x y, f (x ^^^ y) = f x ^^^ f y
theorem Lin.zero {f : Nat → Nat} (h : Lin f) : f 0 = 0 := by
  have := h 0 0
  rw [Nat.xor_self, Nat.xor_self] at this
  exact this
theorem Lin.comp {f g : Nat → Nat} (h : Lin f) (k : Lin g) : Lin fun x => f (g x) := fun x y => by
  show f (g (x ^^^ y)) = _
  rw [k, h]
theorem half_xor (x y : Nat) : (x ^^^ y) / 2 = x / 2 ^^^ y / 2 := by
  apply Nat.eq_of_testBit_eq; intro i
  simp [Nat.testBit_xor, Nat.testBit_div_two]
theorem twice_xor (x y : Nat) : (x ^^^ y) * 2 = x * 2 ^^^ y * 2 := by
  apply Nat.eq_of_testBit_eq; intro i
  cases i with
  | zero => simp [Nat.testBit_xor, Nat.testBit_zero, Nat.mul_mod_left]
  | succ n => rw [Nat.testBit_xor, Nat.testBit_succ, Nat.testBit_succ, Nat.testBit_succ, Nat.mul_div_cancel _ (by decide), Nat.mul_div_cancel _ (by decide), Nat.mul_div_cancel _ (by decide), Nat.testBit_xor]
theorem xor4 (a b c d : Nat) : (a ^^^ b) ^^^ (c ^^^ d) = (a ^^^ c) ^^^ (b ^^^ d) := by
  apply Nat.eq_of_testBit_eq; intro i
  simp only [Nat.testBit_xor]
  cases a.testBit i <;> cases b.testBit i <;> cases c.testBit i <;> cases d.testBit i <;> rfl
theorem bit_lin (k c : Nat) : Lin fun x => if x.testBit k then c else 0 := by
  intro x y
  simp only [Nat.testBit_xor]
  cases x.testBit k <;> cases y.testBit k <;> simp
theorem Lin.add {f g : Nat → Nat} (h : Lin f) (k : Lin g) : Lin fun x => f x ^^^ g x := fun x y => by
  show f (x ^^^ y) ^^^ g (x ^^^ y) = _
  rw [h, k, xor4]
theorem Lin.nil : Lin fun _ => 0 := fun _ _ => (Nat.xor_self 0).symm
theorem lin_xt : Lin xt := Lin.add (f := fun x => x * 2) twice_xor (bit_lin 7 285)
theorem lin_Ga : ∀ n b, Lin fun a => G n a b
  | 0, b => Lin.nil
  | n + 1, b => Lin.add (f := fun a => if b.testBit 0 then a else 0) (by
    cases b.testBit 0 with
    | false => exact Lin.nil
    | true => exact fun _ _ => rfl) (Lin.comp (lin_Ga n (b / 2)) lin_xt)
theorem lin_Gb : ∀ n a, Lin (G n a)
  | 0, a => Lin.nil
  | n + 1, a => Lin.add (bit_lin 0 a) (Lin.comp (lin_Gb n (xt a)) half_xor)
theorem lin_ext {f g : Nat → Nat} (hf : Lin f) (hg : Lin g) : ∀ n, (∀ j, j < n → f (2 ^ j) = g (2 ^ j)) → ∀ a, a < 2 ^ n → f a = g a
  | 0, _, a, h => by
    have : a = 0 := by simpa using h
    rw [this, hf.zero, hg.zero]
  | n + 1, hb, a, h => by
    have ih := lin_ext hf hg n fun j hj => hb j (by omega)
    by_cases hl : a < 2 ^ n
    · exact ih a hl
    · have hx : a ^^^ 2 ^ n < 2 ^ n := by
        apply Nat.lt_pow_two_of_testBit
        intro i hi
        rw [Nat.testBit_xor, Nat.testBit_two_pow]
        by_cases e : n = i
        · subst e
          have : a.testBit n = true := by
            rw [Nat.testBit_eq_decide_div_mod_eq]
            have h1 : a / 2 ^ n = 1 := by
              have hp : 0 < 2 ^ n := Nat.pow_pos (by decide)
              rw [Nat.div_eq_iff hp]
              rw [Nat.pow_succ] at h
              omega
            rw [h1]; rfl
          rw [this]; simp
        · have : a.testBit i = false := Nat.testBit_lt_two_pow (Nat.lt_of_lt_of_le h (Nat.pow_le_pow_right (by decide) (by omega)))
          rw [this]; simp [e]
      have e : a = (a ^^^ 2 ^ n) ^^^ 2 ^ n := by rw [Nat.xor_assoc, Nat.xor_self, Nat.xor_zero]
      rw [e, hf, hg, ih _ hx, hb n (by omega)]
theorem ext8 {f g : Nat → Nat} (hf : Lin f) (hg : Lin g) (h : ∀ j, j < 8 → f (2 ^ j) = g (2 ^ j)) {a : Nat} (ha : a < 256) : f a = g a := lin_ext hf hg 8 h a ha
theorem xor8 {a b : Nat} (ha : a < 256) (hb : b < 256) : a ^^^ b < 256 := Nat.xor_lt_two_pow (n := 8) ha hb
theorem xt_lt : ∀ {a : Nat}, a < 256 → xt a < 256 := fun {a} h => (by decide +kernel : ∀ a : Fin 256, xt a.val < 256) ⟨a, h⟩
theorem G_lt : ∀ n {a : Nat} b, a < 256 → G n a b < 256
  | 0, _, _, _ => by simp [G]
  | n + 1, a, b, h => by
    refine xor8 ?_ (G_lt n _ (xt_lt h))
    split <;> omega
theorem gt_lt {a : Nat} (b : Nat) (h : a < 256) : gt a b < 256 := G_lt 8 b h
theorem gt_comm {a b : Nat} (ha : a < 256) (hb : b < 256) : gt a b = gt b a := by
  refine ext8 (f := fun a => gt a b) (g := fun a => gt b a) (lin_Ga 8 b) (lin_Gb 8 b) (fun j hj => ?_) ha
  refine ext8 (f := fun b => gt (2 ^ j) b) (g := fun b => gt b (2 ^ j)) (lin_Gb 8 _) (lin_Ga 8 _) (fun k hk => ?_) hb
  exact (by decide +kernel : ∀ j k : Fin 8, gt (2 ^ j.val) (2 ^ k.val) = gt (2 ^ k.val) (2 ^ j.val)) ⟨j, hj⟩ ⟨k, hk⟩
theorem gt_assoc {a b c : Nat} (ha : a < 256) (hb : b < 256) (hc : c < 256) : gt a (gt b c) = gt (gt a b) c := by
  refine ext8 (f := fun a => gt a (gt b c)) (g := fun a => gt (gt a b) c) (lin_Ga 8 _) (Lin.comp (f := fun x => gt x c) (lin_Ga 8 c) (lin_Ga 8 b)) (fun i hi => ?_) ha
  refine ext8 (f := fun b => gt (2 ^ i) (gt b c)) (g := fun b => gt (gt (2 ^ i) b) c) (Lin.comp (f := gt (2 ^ i)) (lin_Gb 8 _) (lin_Ga 8 c)) (Lin.comp (f := fun x => gt x c) (lin_Ga 8 c) (lin_Gb 8 _)) (fun j hj => ?_) hb
  refine ext8 (f := fun c => gt (2 ^ i) (gt (2 ^ j) c)) (g := fun c => gt (gt (2 ^ i) (2 ^ j)) c) (Lin.comp (f := gt (2 ^ i)) (lin_Gb 8 _) (lin_Gb 8 _)) (lin_Gb 8 _) (fun k hk => ?_) hc
  exact (by decide +kernel : ∀ i j k : Fin 8, gt (2 ^ i.val) (gt (2 ^ j.val) (2 ^ k.val)) = gt (gt (2 ^ i.val) (2 ^ j.val)) (2 ^ k.val)) ⟨i, hi⟩ ⟨j, hj⟩ ⟨k, hk⟩
theorem one_gt {a : Nat} (ha : a < 256) : gt 1 a = a :=
  ext8 (f := gt 1) (g := fun x => x) (lin_Gb 8 1) (fun _ _ => rfl) (fun j hj => (by decide +kernel : ∀ j : Fin 8, gt 1 (2 ^ j.val) = 2 ^ j.val) ⟨j, hj⟩) ha
theorem gt_one {a : Nat} (ha : a < 256) : gt a 1 = a := by rw [gt_comm ha (by decide), one_gt ha]
theorem gt_zero (a : Nat) : gt a 0 = 0 := (lin_Gb 8 a).zero
theorem zero_gt (a : Nat) : gt 0 a = 0 := (lin_Ga 8 a).zero
def inn (a b j : Nat) : Nat → Nat
  | 0 => 0
  | k + 1 => inn a b j k ^^^ (if a.testBit j then (if b.testBit k then 2 ^ (j + k) else 0) else 0)
def out (a b : Nat) : Nat → Nat
  | 0 => 0
  | j + 1 => out a b j ^^^ inn a b j 8
def invS : Nat → Nat → Nat × Nat
  | 0, a => (gt a a, gt a a)
  | n + 1, a => (gt (invS n a).1 (invS n a).1, gt (invS n a).2 (gt (invS n a).1 (invS n a).1))
def inv (a : Nat) : Nat := (invS 6 a).2
theorem invS_lt {a : Nat} (h : a < 256) : ∀ n, (invS n a).1 < 256 ∧ (invS n a).2 < 256
  | 0 => ⟨gt_lt _ h, gt_lt _ h⟩
  | n + 1 => ⟨gt_lt _ (invS_lt h n).1, gt_lt _ (invS_lt h n).2⟩
theorem inv_lt {a : Nat} (h : a < 256) : inv a < 256 := (invS_lt h 6).2
def invQ : Nat → Nat → Nat → Nat
  | 0, _, i => i
  | n + 1, s, i => (fun q => invQ n q (gt i q)) (gt s s)
def invF (a : Nat) : Nat := (fun q => invQ 6 q q) (gt a a)
theorem invQ_eq : ∀ n m a, invQ n (invS m a).1 (invS m a).2 = (invS (m + n) a).2
  | 0, m, a => rfl
  | n + 1, m, a => by
    show invQ n (gt (invS m a).1 (invS m a).1) (gt (invS m a).2 (gt (invS m a).1 (invS m a).1)) = _
    have := invQ_eq n (m + 1) a
    rw [show m + 1 + n = m + (n + 1) by omega] at this
    exact this
theorem invF_eq (a : Nat) : invF a = inv a := by
  have := invQ_eq 6 0 a
  exact this
set_option maxRecDepth 100000 in
theorem inv_chk : ∀ a : Fin 256, a.val ≠ 0 → gt a.val (invF a.val) = 1 := by decide +kernel
theorem gt_inv {a : Nat} (h : a < 256) (h0 : a ≠ 0) : gt a (inv a) = 1 := by rw [← invF_eq]; exact inv_chk ⟨a, h⟩ h0
theorem gt_cancel {a x y : Nat} (h : a < 256) (h0 : a ≠ 0) (hx : x < 256) (hy : y < 256) (e : gt a x = gt a y) : x = y := by
  have h1 : gt (inv a) (gt a x) = gt (inv a) (gt a y) := by rw [e]
  rw [gt_assoc (inv_lt h) h hx, gt_assoc (inv_lt h) h hy, gt_comm (inv_lt h) h, gt_inv h h0, one_gt hx, one_gt hy] at h1
  exact h1
theorem gt_ne {a b : Nat} (ha : a < 256) (hb : b < 256) (h : a ≠ 0) (k : b ≠ 0) : gt a b ≠ 0 := fun e => k (gt_cancel ha h hb (by decide) (e.trans (gt_zero a).symm))
def gp (s : Nat) : Nat → Nat
  | 0 => 1
  | k + 1 => gt (gp s k) s
abbrev pw (k : Nat) : Nat := gp 2 k
theorem gp_lt (s : Nat) : ∀ k, gp s k < 256
  | 0 => show 1 < 256 by decide
  | k + 1 => gt_lt _ (gp_lt s k)
theorem gp_add {s : Nat} (hs : s < 256) (m : Nat) : ∀ n, gp s (m + n) = gt (gp s m) (gp s n)
  | 0 => (gt_one (gp_lt s m)).symm
  | n + 1 => by
    show gt (gp s (m + n)) s = gt (gp s m) (gt (gp s n) s)
    rw [gp_add hs m n, gt_assoc (gp_lt s m) (gp_lt s n) hs]
def noOne : Nat → Nat → Bool
  | 0, _ => true
  | n + 1, p => p != 1 && noOne n (gt p 2)
theorem noOne_pw : ∀ n k, noOne n (pw k) = true → ∀ i, i < n → pw (k + i) ≠ 1
  | 0, _, _, i, h => by omega
  | n + 1, k, h, i, hi => by
    simp only [noOne, Bool.and_eq_true, bne_iff_ne] at h
    cases i with
    | zero => exact h.1
    | succ i =>
      have := noOne_pw n (k + 1) h.2 i (by omega)
      rw [show k + 1 + i = k + (i + 1) by omega] at this
      exact this
theorem pw_ne_one {d : Nat} (h0 : 0 < d) (h : d < 255) : pw d ≠ 1 := by
  have c : noOne 254 (pw 1) = true := by decide +kernel
  have := noOne_pw 254 1 c (d - 1) (by omega)
  rw [show 1 + (d - 1) = d by omega] at this
  exact this
theorem pw_ne0 : ∀ k, pw k ≠ 0
  | 0 => by decide
  | k + 1 => gt_ne (gp_lt 2 k) (by decide) (pw_ne0 k) (by decide)
theorem pw_lt_ne {i j : Nat} (h : i < j) (hj : j < 255) : pw i ≠ pw j := fun e => by
  refine pw_ne_one (d := j - i) (by omega) (by omega) ?_
  refine gt_cancel (gp_lt 2 i) (pw_ne0 i) (gp_lt 2 _) (by decide) ?_
  show gt (pw i) (pw (j - i)) = gt (pw i) 1
  rw [← gp_add (by decide), show i + (j - i) = j by omega, gt_one (gp_lt 2 i)]
  exact e.symm
theorem pw_inj {i j : Nat} (hi : i < 255) (hj : j < 255) (h : i ≠ j) : pw i ≠ pw j := by
  rcases Nat.lt_or_gt_of_ne h with h | h
  · exact pw_lt_ne h hj
  · exact fun e => pw_lt_ne h hi e.symm
end GF
namespace Law
open PySem L2 HC PyProof.Rows
def xorB (a b : Blk) : Blk := a.zipWith (fun x y => x ^^^ y) b
def mulB (c : Nat) (b : Blk) : Blk := b.map (GF.gt c)
def zeroB (n : Nat) : Blk := List.replicate n 0
def sumB (n : Nat) (bs : List Blk) : Blk := bs.foldl xorB (zeroB n)
def turnB (bs : List Blk) : List Blk := (List.range bs.length).map fun i => mulB (GF.pw i) (bs.getD i [])
def parB (p n : Nat) (bs : List Blk) : List Blk := if p = 1 then [sumB n bs] else [sumB n bs, sumB n (turnB bs)]
def WfR (n : Nat) (bs : List Blk) : Prop := ∀ b ∈ bs, BlkOk' b n
theorem xorB_len {a b : Blk} : (xorB a b).length = min a.length b.length := by simp [xorB]
theorem xorB_wf {n : Nat} {a b : Blk} (ha : BlkOk' a n) (hb : BlkOk' b n) : BlkOk' (xorB a b) n := by
  refine ⟨by rw [xorB_len, ha.1, hb.1]; omega, fun x hx => ?_⟩
  obtain ⟨i, hi, e⟩ := List.mem_iff_getElem.mp hx
  unfold xorB at e hi
  rw [List.getElem_zipWith] at e
  subst e
  simp at hi
  exact GF.xor8 (ha.2 _ (List.getElem_mem _)) (hb.2 _ (List.getElem_mem _))
theorem mulB_wf {n c : Nat} {b : Blk} (hc : c < 256) (hb : BlkOk' b n) : BlkOk' (mulB c b) n := by
  refine ⟨by simp [mulB, hb.1], fun x hx => ?_⟩
  obtain ⟨y, hy, rfl⟩ := List.mem_map.mp hx
  exact GF.gt_lt y hc
theorem zeroB_wf {n : Nat} : BlkOk' (zeroB n) n := ⟨by simp [zeroB], fun x hx => by rw [(List.mem_replicate.mp hx).2]; decide⟩
theorem foldB_wf {n : Nat} : ∀ {bs : List Blk} {z : Blk}, BlkOk' z n → WfR n bs → BlkOk' (bs.foldl xorB z) n
  | [], _, h, _ => h
  | b :: bs, z, h, hb => foldB_wf (bs := bs) (xorB_wf h (hb b (by simp))) fun c hc => hb c (by simp [hc])
theorem sumB_wf {n : Nat} {bs : List Blk} (h : WfR n bs) : BlkOk' (sumB n bs) n := foldB_wf zeroB_wf h
theorem turnB_wf {n : Nat} {bs : List Blk} (h : WfR n bs) : WfR n (turnB bs) := fun b hb => by
  obtain ⟨i, hi, rfl⟩ := List.mem_map.mp hb
  have hi : i < bs.length := List.mem_range.mp hi
  refine mulB_wf (GF.gp_lt 2 i) (h _ ?_)
  rw [List.getD_eq_getElem?_getD, List.getElem?_eq_getElem hi]
  exact List.getElem_mem hi
theorem turnB_len {bs : List Blk} : (turnB bs).length = bs.length := by simp [turnB]
theorem parB_len {p n : Nat} {bs : List Blk} (h1 : 1 ≤ p) (h2 : p ≤ 2) : (parB p n bs).length = p := by
  unfold parB
  split <;> simp <;> omega
theorem parB_wf {p n : Nat} {bs : List Blk} (h : WfR n bs) : WfR n (parB p n bs) := fun b hb => by
  unfold parB at hb
  split at hb
  · rw [List.mem_singleton.mp hb]; exact sumB_wf h
  · simp only [List.mem_cons, List.not_mem_nil, or_false] at hb
    rcases hb with rfl | rfl
    · exact sumB_wf h
    · exact sumB_wf (turnB_wf h)
theorem mulB_xor (c : Nat) : ∀ (a b : Blk), mulB c (xorB a b) = xorB (mulB c a) (mulB c b)
  | [], b => by simp [xorB, mulB]
  | x :: a, [] => by simp [xorB, mulB]
  | x :: a, y :: b => by
    have := mulB_xor c a b
    simp only [xorB, mulB, List.zipWith_cons_cons, List.map_cons, List.cons.injEq] at this ⊢
    exact ⟨GF.lin_Gb 8 c x y, this⟩
theorem zero_xor (n : Nat) : xorB (zeroB n) (zeroB n) = zeroB n := by
  simp [xorB, zeroB]
theorem getD_mem {bs : List Blk} {i : Nat} (h : i < bs.length) : bs.getD i [] ∈ bs := by
  rw [List.getD_eq_getElem?_getD, List.getElem?_eq_getElem h]
  exact List.getElem_mem h
def RowD (d : Dv) (xs : List Dv) : Prop := d = .tup xs ∨ d = .rol xs
theorem RowD.items {d : Dv} {xs : List Dv} (h : RowD d xs) (M : Ms) : itemsA d M = some xs := by
  rcases h with rfl | rfl <;> rfl
theorem xorB_getD {a b : Blk} {j : Nat} (ha : j < a.length) (hb : j < b.length) : (xorB a b).getD j 0 = a.getD j 0 ^^^ b.getD j 0 := by
  simp [xorB, List.getD, ha, hb, List.getElem?_zipWith]
theorem mulB_getD {c : Nat} {b : Blk} {j : Nat} (hb : j < b.length) : (mulB c b).getD j 0 = GF.gt c (b.getD j 0) := by
  simp [mulB, List.getD, hb]
def RowM (d : Dv) (xs : List Dv) (M : Ms) : Prop := d = .tup xs ∨ d = .rol xs ∨ ∃ r, d = .ref r ∧ M r = some (.lst xs)
theorem RowM.items {d : Dv} {xs : List Dv} {M : Ms} (h : RowM d xs M) : itemsA d M = some xs := by
  rcases h with rfl | rfl | ⟨r, rfl, h⟩
  · rfl
  · rfl
  · exact itemsA_l h
theorem RowM.sub {d : Dv} {xs : List Dv} {M M' : Ms} (h : RowM d xs M) (s : Sub M M') : RowM d xs M' := by
  rcases h with rfl | rfl | ⟨r, rfl, h⟩
  · exact .inl rfl
  · exact .inr (.inl rfl)
  · exact .inr (.inr ⟨r, rfl, s _ _ h⟩)
open Classical in
noncomputable def lg (b : Nat) : Nat := if h : ∃ k, k < 255 ∧ GF.pw k = b then Classical.choose h else 0
end Law
namespace Law
open PySem L2 HC PyProof.Rows
end Law
namespace Law
open PySem L2 HC PyProof.Rows
theorem mdel_mup_ne {M : Ms} {a b : Addr} {c : Cell} (h : b ≠ a) : mdel (mup M b c) a = mup (mdel M a) b c := by
  funext x
  by_cases e : x = a
  · subst e
    rw [mdel_same, mup_ne h.symm, mdel_same]
  · rw [mdel_ne e]
    by_cases e2 : x = b
    · subst e2; rw [mup_same, mup_same]
    · rw [mup_ne e2, mup_ne e2, mdel_ne e]
def Grow2 (M : Ms) (r t : Addr) (M' : Ms) : Prop := Sub M (mdel (mdel M' r) t)
theorem Grow2.r {M M' : Ms} {r t : Addr} {c : Cell} (h : Grow2 M r t M') : Grow2 M r t (mup M' r c) := by
  unfold Grow2; rw [mdel_put]; exact h
theorem Grow2.t {M M' : Ms} {r t : Addr} {c : Cell} (h : Grow2 M r t M') (ne : t ≠ r) : Grow2 M r t (mup M' t c) := by
  unfold Grow2; rw [mdel_mup_ne ne, mdel_put]; exact h
theorem Grow2.sub {M M' : Ms} {r t : Addr} (h : Grow2 M r t M') : Sub M M' := (h.trans mdel_sub).trans mdel_sub
theorem Grow2.new {M : Ms} {r t : Addr} {c d : Cell} (hr : M r = none) (ht : mup M r c t = none) : Grow2 M r t (mup (mup M r c) t d) := by
  have ne : t ≠ r := (mup_none ht).1
  unfold Grow2
  rw [mdel_mup_ne ne, mdel_put, mdel_put]
  exact mdel_of (mdel_of (Sub.refl M) hr) (mup_none ht).2
def logD (n : Nat) : List (Key × Dv) := (List.range n).map fun (k : Nat) => (Sum.inl ((GF.pw k : Nat) : Int), dn k)
def Field (w : Addr) (M : Ms) : Prop := M w = some (.dic (logD 255))
theorem Field.sub {w : Addr} {M M' : Ms} (h : Field w M) (s : Sub M M') : Field w M' := s w _ h
end Law
namespace Law
open PySem L2 HC PyProof.Rows
theorem xorB_comm : ∀ (a b : Blk), xorB a b = xorB b a
  | [], b => by cases b <;> simp [xorB]
  | x :: a, [] => by simp [xorB]
  | x :: a, y :: b => by
    have := xorB_comm a b
    simp only [xorB, List.zipWith_cons_cons, List.cons.injEq] at this ⊢
    exact ⟨Nat.xor_comm x y, this⟩
theorem xorB_assoc : ∀ (a b c : Blk), xorB (xorB a b) c = xorB a (xorB b c)
  | [], b, c => by simp [xorB]
  | x :: a, [], c => by simp [xorB]
  | x :: a, y :: b, [] => by simp [xorB]
  | x :: a, y :: b, z :: c => by
    have := xorB_assoc a b c
    simp only [xorB, List.zipWith_cons_cons, List.cons.injEq] at this ⊢
    exact ⟨Nat.xor_assoc x y z, this⟩
theorem xorB_zero : ∀ (n : Nat) (a : Blk), a.length = n → xorB a (zeroB n) = a
  | 0, [], _ => rfl
  | n + 1, x :: a, h => by
    have := xorB_zero n a (by simpa using h)
    simp only [xorB, zeroB, List.replicate_succ, List.zipWith_cons_cons, List.cons.injEq, Nat.xor_zero, true_and] at this ⊢
    exact this
theorem xorB_self : ∀ (n : Nat) (a : Blk), a.length = n → xorB a a = zeroB n
  | 0, [], _ => rfl
  | n + 1, x :: a, h => by
    have := xorB_self n a (by simpa using h)
    simp only [xorB, zeroB, List.replicate_succ, List.zipWith_cons_cons, List.cons.injEq, Nat.xor_self, true_and] at this ⊢
    exact this
theorem zero_xorB {n : Nat} {a : Blk} (h : a.length = n) : xorB (zeroB n) a = a := by rw [xorB_comm, xorB_zero n a h]
theorem xorB_cancel {n : Nat} {a b : Blk} (ha : a.length = n) (hb : b.length = n) : xorB a (xorB a b) = b := by
  rw [← xorB_assoc, xorB_self n a ha, zero_xorB hb]
theorem mulB_mulB {a c : Nat} {b : Blk} (ha : a < 256) (hc : c < 256) (hb : ∀ x ∈ b, x < 256) : mulB a (mulB c b) = mulB (GF.gt a c) b := by
  unfold mulB
  rw [List.map_map]
  exact List.map_congr_left fun x hx => GF.gt_assoc ha hc (hb x hx)
theorem mulB_one {b : Blk} (hb : ∀ x ∈ b, x < 256) : mulB 1 b = b := by
  unfold mulB
  have : b.map (GF.gt 1) = b.map id := List.map_congr_left fun x hx => GF.one_gt (hb x hx)
  rw [this, List.map_id]
theorem inv_mulB {c : Nat} {b : Blk} (hc : c < 256) (h0 : c ≠ 0) (hb : ∀ x ∈ b, x < 256) : mulB (GF.inv c) (mulB c b) = b := by
  rw [mulB_mulB (GF.inv_lt hc) hc hb, GF.gt_comm (GF.inv_lt hc) hc, GF.gt_inv hc h0, mulB_one hb]
theorem mulB_addc (a c : Nat) : ∀ (b : Blk), mulB (a ^^^ c) b = xorB (mulB a b) (mulB c b)
  | [] => rfl
  | x :: b => by
    have := mulB_addc a c b
    simp only [mulB, xorB, List.map_cons, List.zipWith_cons_cons, List.cons.injEq] at this ⊢
    exact ⟨GF.lin_Ga 8 x a c, this⟩
theorem mulB_zero (c n : Nat) : mulB c (zeroB n) = zeroB n := by
  simp [mulB, zeroB, List.map_replicate, GF.gt_zero]
theorem foldB_start : ∀ (bs : List Blk) (z w : Blk), bs.foldl xorB (xorB z w) = xorB z (bs.foldl xorB w)
  | [], _, _ => rfl
  | b :: bs, z, w => by
    rw [List.foldl_cons, List.foldl_cons, xorB_assoc]
    exact foldB_start bs z (xorB w b)
theorem sumB_split {n : Nat} {A B : List Blk} {x : Blk} (hx : x.length = n) : sumB n (A ++ x :: B) = xorB x (sumB n (A ++ B)) := by
  unfold sumB
  rw [List.foldl_append, List.foldl_append, List.foldl_cons, xorB_comm _ x]
  exact foldB_start B x _
theorem set_split {α : Type} {xs : List α} {g : Nat} (h : g < xs.length) (b : α) : xs.set g b = xs.take g ++ b :: xs.drop (g + 1) := by
  rw [List.set_eq_take_append_cons_drop, if_pos h]
theorem sumB_set {n g : Nat} {xs : List Blk} {b : Blk} (hg : g < xs.length) (hb : b.length = n) (hz : (xs.getD g []).length = n) : sumB n (xs.set g b) = xorB (xorB (sumB n xs) (xs.getD g [])) b := by
  have e : xs = xs.take g ++ xs.getD g [] :: xs.drop (g + 1) := by
    rw [← set_split hg]
    refine (List.ext_getElem (by simp) fun i h1 h2 => ?_)
    rw [List.getElem_set]
    split
    · next e => subst e; simp [List.getD, hg]
    · rfl
  have s1 := sumB_split (n := n) (A := xs.take g) (B := xs.drop (g + 1)) hb
  have s2 := sumB_split (n := n) (A := xs.take g) (B := xs.drop (g + 1)) hz
  rw [← e] at s2
  rw [set_split hg, s1, s2]
  rw [xorB_comm (xs.getD g []) _, xorB_assoc, xorB_assoc, xorB_comm b]
  congr 1
  rw [← xorB_assoc, xorB_self n _ hz, zero_xorB hb]
theorem turnB_set {g : Nat} {xs : List Blk} {b : Blk} (hg : g < xs.length) : turnB (xs.set g b) = (turnB xs).set g (mulB (GF.pw g) b) := by
  refine List.ext_getElem (by simp [turnB]) fun i h1 h2 => ?_
  simp [turnB] at h1
  rw [List.getElem_set]
  simp only [turnB, List.getElem_map, List.getElem_range]
  rw [List.getD_eq_getElem?_getD, List.getElem?_set]
  by_cases e : g = i
  · subst e
    rw [if_pos rfl, if_pos rfl, if_pos hg]
    rfl
  · rw [if_neg e, if_neg e, List.getD_eq_getElem?_getD]
theorem turnB_getD {xs : List Blk} {g : Nat} (hg : g < xs.length) : (turnB xs).getD g [] = mulB (GF.pw g) (xs.getD g []) := by
  rw [List.getD_eq_getElem?_getD, turnB, List.getElem?_map, List.getElem?_range hg]
  rfl
abbrev Row := List (Option Blk)
def WfO (n : Nat) (r : Row) : Prop := ∀ o ∈ r, ∀ b, o = some b → BlkOk' b n
def known (r : Row) : List Nat := (List.range r.length).filter fun i => (r.getD i none).isSome
def goneP (k : Nat) (r : Row) : List Nat := (List.range k).filter fun i => (r.getD i none).isNone
def data0 (n k : Nat) (r : Row) : List Blk := (r.take k).map fun o => o.getD (zeroB n)
def byP (n : Nat) (d0 : List Blk) (P : Blk) : Blk := xorB P (sumB n d0)
def byQ (n : Nat) (d0 : List Blk) (g : Nat) (Qb : Blk) : Blk := mulB (GF.inv (GF.pw g)) (xorB Qb (sumB n (turnB d0)))
def byPQ (n : Nat) (d0 : List Blk) (g h : Nat) (P Qb : Blk) : Blk := mulB (GF.inv (GF.pw g ^^^ GF.pw h)) (xorB (xorB Qb (sumB n (turnB d0))) (mulB (GF.pw h) (xorB P (sumB n d0))))
def dataTold (p n : Nat) (r : Row) : List Blk :=
  let k := r.length - p
  let d0 := data0 n k r
  match goneP k r with
  | [] => d0
  | [g] => match r.getD k none with
    | some P => d0.set g (byP n d0 P)
    | none => d0.set g (byQ n d0 g ((r.getD (k + 1) none).getD []))
  | g :: h :: _ =>
    let P := (r.getD k none).getD []
    let Qb := (r.getD (k + 1) none).getD []
    let one := byPQ n d0 g h P Qb
    (d0.set g one).set h (xorB (xorB P (sumB n d0)) one)
theorem filter_two {α : Type} (f : α → Bool) : ∀ l : List α, (l.filter f).length + (l.filter fun x => !f x).length = l.length
  | [] => rfl
  | x :: l => by
    have := filter_two f l
    cases e : f x <;> simp [List.filter_cons, e] <;> omega
def Hides (p n : Nat) (ds : List Blk) (r : Row) : Prop := r.length = ds.length + p ∧ ∀ i b, r.getD i none = some b → (ds ++ parB p n ds).getD i [] = b
theorem data0_len {n k : Nat} {r : Row} (h : k ≤ r.length) : (data0 n k r).length = k := by simp [data0]; omega
theorem data0_at {n k i : Nat} {r : Row} (h : k ≤ r.length) (hi : i < k) : (data0 n k r).getD i [] = (r.getD i none).getD (zeroB n) := by
  unfold data0
  rw [List.getD_eq_getElem?_getD, List.getElem?_map, List.getElem?_take, if_pos hi, List.getElem?_eq_getElem (by omega), List.getD_eq_getElem?_getD, List.getElem?_eq_getElem (by omega)]
  rfl
theorem gone_mem {k i : Nat} {r : Row} : i ∈ goneP k r ↔ i < k ∧ r.getD i none = none := by
  unfold goneP
  rw [List.mem_filter, List.mem_range, Option.isNone_iff_eq_none]
theorem blks_ext {xs ys : List Blk} (hl : xs.length = ys.length) (h : ∀ i, i < xs.length → xs.getD i [] = ys.getD i []) : xs = ys := by
  refine List.ext_getElem hl fun i h1 h2 => ?_
  have := h i h1
  rw [List.getD_eq_getElem?_getD, List.getD_eq_getElem?_getD, List.getElem?_eq_getElem h1, List.getElem?_eq_getElem h2] at this
  exact this
theorem getD_set {xs : List Blk} {g i : Nat} {b : Blk} (hg : g < xs.length) : (xs.set g b).getD i [] = if g = i then b else xs.getD i [] := by
  rw [List.getD_eq_getElem?_getD, List.getElem?_set]
  by_cases e : g = i
  · subst e; rw [if_pos rfl, if_pos rfl, if_pos hg]; rfl
  · rw [if_neg e, if_neg e, List.getD_eq_getElem?_getD]
theorem data_set {ds : List Blk} {g : Nat} : ds.set g (ds.getD g []) = ds := by
  refine List.ext_getElem (by simp) fun i h1 h2 => ?_
  rw [List.getElem_set]
  split
  · next e => subst e; simp [List.getD, h2]
  · rfl
section
variable {p n : Nat} {ds : List Blk} {r : Row}
theorem Hides.data (h : Hides p n ds r) {i : Nat} (hi : i < ds.length) (b : Blk) (e : r.getD i none = some b) : ds.getD i [] = b := by
  have := h.2 i b e
  rwa [List.getD_eq_getElem?_getD, List.getElem?_append_left hi, ← List.getD_eq_getElem?_getD] at this
theorem Hides.par (h : Hides p n ds r) {j : Nat} (b : Blk) (e : r.getD (ds.length + j) none = some b) : (parB p n ds).getD j [] = b := by
  have := h.2 _ b e
  rwa [List.getD_eq_getElem?_getD, List.getElem?_append_right (by omega), Nat.add_sub_cancel_left, ← List.getD_eq_getElem?_getD] at this
theorem hides_d0 (h : Hides p n ds r) {i : Nat} (hi : i < ds.length) : (data0 n ds.length r).getD i [] = if r.getD i none = none then zeroB n else ds.getD i [] := by
  rw [data0_at (by rw [h.1]; omega) hi]
  cases e : r.getD i none with
  | none => rw [if_pos rfl]; rfl
  | some b => rw [if_neg (fun z => nomatch z), h.data hi b e]; rfl
theorem dataTold_code (p1 : 1 ≤ p) (p2 : p ≤ 2) (hw : WfR n ds) (hl : ds.length ≤ 255) (h : Hides p n ds r) (hk : ds.length ≤ (known r).length) : dataTold p n r = ds := by
  have ek : r.length - p = ds.length := by rw [h.1]; omega
  have dl : (data0 n ds.length r).length = ds.length := data0_len (by rw [h.1]; omega)
  have wd : ∀ i, i < ds.length → BlkOk' (ds.getD i []) n := fun i hi => hw _ (getD_mem hi)
  have ws := sumB_wf hw
  have wt := sumB_wf (turnB_wf hw)
  have count : (known r).length + (goneP ds.length r).length ≤ ds.length + ((List.range p).filter fun j => (r.getD (ds.length + j) none).isSome).length := by
    unfold known goneP
    rw [h.1, List.range_add, List.filter_append, List.length_append, List.filter_map, List.length_map]
    have c : ((List.range ds.length).filter fun i => (r.getD i none).isSome).length + ((List.range ds.length).filter fun i => (r.getD i none).isNone).length = ds.length := by
      have := filter_two (fun i => (r.getD i none).isSome) (List.range ds.length)
      rw [List.length_range] at this
      have e : (fun i => (r.getD i none).isNone) = fun i => !(r.getD i none).isSome := by
        funext i; cases r.getD i none <;> rfl
      rw [e]
      omega
    have e2 : ((fun i => (r.getD i none).isSome) ∘ fun x => ds.length + x) = fun j => (r.getD (ds.length + j) none).isSome := rfl
    rw [e2]
    omega
  have pcount : ((List.range p).filter fun j => (r.getD (ds.length + j) none).isSome).length ≤ p := by
    have := List.length_filter_le (fun j => (r.getD (ds.length + j) none).isSome) (List.range p)
    rwa [List.length_range] at this
  unfold dataTold
  simp only [ek]
  have sorted : ∀ i, i ∈ goneP ds.length r ↔ i < ds.length ∧ r.getD i none = none := fun i => gone_mem
  have nd : (goneP ds.length r).Nodup := List.Pairwise.filter _ List.nodup_range
  generalize hg : goneP ds.length r = G at *
  match G, hg with
  | [], hg =>
    refine blks_ext dl fun i hi => ?_
    rw [dl] at hi
    rw [hides_d0 h hi, if_neg]
    intro e
    exact absurd ((sorted i).mpr ⟨hi, e⟩) (List.not_mem_nil)
  | [g], hg =>
    obtain ⟨g1, g2⟩ := (sorted g).mp (by simp)
    have only : ∀ i, i < ds.length → i ≠ g → r.getD i none ≠ none := fun i hi hne e => hne (by simpa using (sorted i).mpr ⟨hi, e⟩)
    have ed : data0 n ds.length r = ds.set g (zeroB n) := blks_ext (by rw [dl, List.length_set]) fun i hi => by
      rw [dl] at hi
      rw [hides_d0 h hi, getD_set g1]
      by_cases e : g = i
      · subst e; rw [if_pos g2, if_pos rfl]
      · rw [if_neg (only i hi (Ne.symm e)), if_neg e]
    have zl : (zeroB n).length = n := by simp [zeroB]
    have s0 : sumB n (ds.set g (zeroB n)) = xorB (sumB n ds) (ds.getD g []) := by
      rw [sumB_set g1 zl (wd g g1).1, xorB_zero n _ (xorB_wf ws (wd g g1)).1]
    have t0 : sumB n (turnB (ds.set g (zeroB n))) = xorB (sumB n (turnB ds)) (mulB (GF.pw g) (ds.getD g [])) := by
      have wm := mulB_wf (GF.gp_lt 2 g) (wd g g1)
      rw [turnB_set g1, mulB_zero, sumB_set (by rw [turnB_len]; exact g1) zl (by rw [turnB_getD g1]; exact wm.1), turnB_getD g1, xorB_zero n _ (xorB_wf wt wm).1]
    cases eP : r.getD ds.length none with
    | some P =>
      have hP : sumB n ds = P := by
        have := h.par (j := 0) P (by simpa using eP)
        unfold parB at this
        split at this <;> exact this
      simp only [ed, byP, s0, List.set_set]
      rw [← hP, xorB_cancel ws.1 (wd g g1).1, data_set]
    | none =>
      have hp : p = 2 := by
        rcases (show p = 1 ∨ p = 2 by omega) with e | e
        · subst e
          rw [List.getD_eq_getElem?_getD] at eP
          have : ((List.range 1).filter fun j => (r.getD (ds.length + j) none).isSome).length = 0 := by
            simp [eP]
          simp only [List.length_singleton] at count
          omega
        · exact e
      subst hp
      have eQ : ∃ Qb, r.getD (ds.length + 1) none = some Qb := by
        cases eQ : r.getD (ds.length + 1) none with
        | some Qb => exact ⟨Qb, rfl⟩
        | none =>
          rw [List.getD_eq_getElem?_getD] at eP eQ
          have : ((List.range 2).filter fun j => (r.getD (ds.length + j) none).isSome).length = 0 := by
            simp [List.range_succ, eP, eQ]
          simp only [List.length_singleton] at count
          omega
      obtain ⟨Qb, eQ⟩ := eQ
      have hQ : sumB n (turnB ds) = Qb := h.par (j := 1) Qb eQ
      have wm := mulB_wf (GF.gp_lt 2 g) (wd g g1)
      simp only [ed, byQ, t0, List.set_set, eQ, Option.getD_some]
      rw [← hQ, xorB_cancel wt.1 wm.1, inv_mulB (GF.gp_lt 2 g) (GF.pw_ne0 g) (wd g g1).2, data_set]
  | g :: hh :: rest, hg =>
    obtain ⟨g1, g2⟩ := (sorted g).mp (by simp)
    obtain ⟨h1, h2⟩ := (sorted hh).mp (by simp)
    have hne : g ≠ hh := by
      intro e
      rw [e] at nd
      simp at nd
    have rest0 : rest = [] := by
      simp only [List.length_cons] at count
      have : rest.length = 0 := by omega
      exact List.length_eq_zero_iff.mp this
    subst rest0
    simp only [List.length_cons, List.length_nil] at count
    have hp : p = 2 := by omega
    subst hp
    have both : (r.getD ds.length none).isSome = true ∧ (r.getD (ds.length + 1) none).isSome = true := by
      have c2 : 2 ≤ ((List.range 2).filter fun j => (r.getD (ds.length + j) none).isSome).length := by omega
      have e3 : (List.range 2).filter (fun j => (r.getD (ds.length + j) none).isSome) = (if (r.getD ds.length none).isSome then [0] else []) ++ (if (r.getD (ds.length + 1) none).isSome then [1] else []) := by
        rw [show List.range 2 = [0, 1] from rfl]
        cases e1 : (r.getD (ds.length + 0) none).isSome <;> cases e2 : (r.getD (ds.length + 1) none).isSome <;> rw [Nat.add_zero] at e1 <;> simp only [List.filter_cons, List.filter_nil, Nat.add_zero, e1, e2] <;> rfl
      rw [e3] at c2
      cases e1 : (r.getD ds.length none).isSome <;> cases e2 : (r.getD (ds.length + 1) none).isSome <;> rw [e1, e2] at c2 <;> first | exact ⟨rfl, rfl⟩ | (exact absurd c2 (by decide))
    obtain ⟨P, eP⟩ := Option.isSome_iff_exists.mp both.1
    obtain ⟨Qb, eQ⟩ := Option.isSome_iff_exists.mp both.2
    have hP : sumB n ds = P := h.par (p := 2) (j := 0) P (by simpa using eP)
    have hQ : sumB n (turnB ds) = Qb := h.par (p := 2) (j := 1) Qb eQ
    have only : ∀ i, i < ds.length → i ≠ g → i ≠ hh → r.getD i none ≠ none := fun i hi a b e => by
      have := (sorted i).mpr ⟨hi, e⟩
      simp [a, b] at this
    have zl : (zeroB n).length = n := by simp [zeroB]
    have ed : data0 n ds.length r = (ds.set g (zeroB n)).set hh (zeroB n) := blks_ext (by rw [dl, List.length_set, List.length_set]) fun i hi => by
      rw [dl] at hi
      rw [hides_d0 h hi, getD_set (by rw [List.length_set]; exact h1), getD_set g1]
      by_cases e : hh = i
      · subst e; rw [if_pos h2, if_pos rfl]
      · rw [if_neg e]
        by_cases e2 : g = i
        · subst e2; rw [if_pos g2, if_pos rfl]
        · rw [if_neg (only i hi (Ne.symm e2) (Ne.symm e)), if_neg e2]
    have wg := wd g g1
    have wh := wd hh h1
    have mg := mulB_wf (GF.gp_lt 2 g) wg
    have mh := mulB_wf (GF.gp_lt 2 hh) wh
    have hd : (ds.set g (zeroB n)).getD hh [] = ds.getD hh [] := by rw [getD_set g1, if_neg hne]
    have s0 : sumB n ((ds.set g (zeroB n)).set hh (zeroB n)) = xorB (xorB (sumB n ds) (ds.getD g [])) (ds.getD hh []) := by
      rw [sumB_set (by rw [List.length_set]; exact h1) zl (by rw [hd]; exact wh.1), hd, sumB_set g1 zl wg.1, xorB_zero n _ (xorB_wf ws wg).1, xorB_zero n _ (xorB_wf (xorB_wf ws wg) wh).1]
    have t0 : sumB n (turnB ((ds.set g (zeroB n)).set hh (zeroB n))) = xorB (xorB (sumB n (turnB ds)) (mulB (GF.pw g) (ds.getD g []))) (mulB (GF.pw hh) (ds.getD hh [])) := by
      have e1 : ((turnB ds).set g (zeroB n)).getD hh [] = mulB (GF.pw hh) (ds.getD hh []) := by
        rw [getD_set (by rw [turnB_len]; exact g1), if_neg hne, turnB_getD h1]
      rw [turnB_set (by rw [List.length_set]; exact h1), turnB_set g1, mulB_zero, mulB_zero, sumB_set (by rw [List.length_set, turnB_len]; exact h1) zl (by rw [e1]; exact mh.1), e1, sumB_set (by rw [turnB_len]; exact g1) zl (by rw [turnB_getD g1]; exact mg.1), turnB_getD g1, xorB_zero n _ (xorB_wf wt mg).1, xorB_zero n _ (xorB_wf (xorB_wf wt mg) mh).1]
    have first : xorB P (sumB n ((ds.set g (zeroB n)).set hh (zeroB n))) = xorB (ds.getD g []) (ds.getD hh []) := by
      rw [s0, ← hP, xorB_assoc, xorB_cancel ws.1 (xorB_wf wg wh).1]
    have second : xorB Qb (sumB n (turnB ((ds.set g (zeroB n)).set hh (zeroB n)))) = xorB (mulB (GF.pw g) (ds.getD g [])) (mulB (GF.pw hh) (ds.getD hh [])) := by
      rw [t0, ← hQ, xorB_assoc, xorB_cancel wt.1 (xorB_wf mg mh).1]
    have lean0 : GF.pw g ^^^ GF.pw hh ≠ 0 := fun e => GF.pw_inj (i := g) (j := hh) (by omega) (by omega) hne (by
      have := congrArg (fun x => x ^^^ GF.pw hh) e
      simpa [Nat.xor_assoc] using this)
    have leanl : GF.pw g ^^^ GF.pw hh < 256 := GF.xor8 (GF.gp_lt 2 g) (GF.gp_lt 2 hh)
    have one : byPQ n ((ds.set g (zeroB n)).set hh (zeroB n)) g hh P Qb = ds.getD g [] := by
      unfold byPQ
      rw [first, second, mulB_xor (GF.pw hh), xorB_assoc]
      have mhg := mulB_wf (GF.gp_lt 2 hh) wg
      rw [xorB_comm (mulB (GF.pw hh) (ds.getD hh [])) _, xorB_assoc, xorB_self n _ mh.1, xorB_zero n _ mhg.1, ← mulB_addc, inv_mulB leanl lean0 wg.2]
    simp only [ed, eP, eQ, Option.getD_some, one, first]
    rw [xorB_comm (ds.getD g []) (ds.getD hh []), xorB_assoc, xorB_self n _ wg.1, xorB_zero n _ wh.1]
    refine blks_ext (by simp) fun i hi => ?_
    rw [getD_set (by simpa using h1), getD_set (by simpa using g1), getD_set (by simpa using h1), getD_set g1]
    by_cases e : hh = i
    · subst e; rw [if_pos rfl]
    · rw [if_neg e]
      by_cases e2 : g = i
      · subst e2; rw [if_pos rfl]
      · rw [if_neg e2, if_neg e, if_neg e2]
theorem count_ok {r : Row} {k p : Nat} (hl : r.length = k + p) : (known r).length + (goneP k r).length = k + ((List.range p).filter fun j => (r.getD (k + j) none).isSome).length := by
  unfold known goneP
  rw [hl, List.range_add, List.filter_append, List.length_append, List.filter_map, List.length_map]
  have c := filter_two (fun i => (r.getD i none).isSome) (List.range k)
  rw [List.length_range] at c
  have e : (fun i => (r.getD i none).isNone) = fun i => !(r.getD i none).isSome := by
    funext i; cases r.getD i none <;> rfl
  have e2 : ((fun i => (r.getD i none).isSome) ∘ fun x => k + x) = fun j => (r.getD (k + j) none).isSome := rfl
  rw [e, e2]
  omega
theorem two_known {r : Row} {k : Nat} : ((List.range 2).filter fun j => (r.getD (k + j) none).isSome) = (if (r.getD k none).isSome then [0] else []) ++ (if (r.getD (k + 1) none).isSome then [1] else []) := by
  rw [show List.range 2 = [0, 1] from rfl]
  cases e1 : (r.getD (k + 0) none).isSome <;> cases e2 : (r.getD (k + 1) none).isSome <;> rw [Nat.add_zero] at e1 <;> simp only [List.filter_cons, List.filter_nil, Nat.add_zero, e1, e2] <;> rfl
theorem gone_cases {r : Row} {k p : Nat} (hl : r.length = k + p) (p1 : 1 ≤ p) (p2 : p ≤ 2) (hk : k ≤ (known r).length) :
    goneP k r = [] ∨ (∃ g P, goneP k r = [g] ∧ r.getD k none = some P) ∨ (∃ g Qb, p = 2 ∧ goneP k r = [g] ∧ r.getD k none = none ∧ r.getD (k + 1) none = some Qb) ∨
      (∃ g h P Qb, p = 2 ∧ goneP k r = [g, h] ∧ r.getD k none = some P ∧ r.getD (k + 1) none = some Qb) := by
  have c := count_ok hl
  have one : p = 1 → ((List.range p).filter fun j => (r.getD (k + j) none).isSome) = if (r.getD k none).isSome then [0] else [] := by
    rintro rfl
    cases e1 : (r.getD (k + 0) none).isSome <;> rw [Nat.add_zero] at e1 <;> simp only [show List.range 1 = [0] from rfl, List.filter_cons, List.filter_nil, Nat.add_zero, e1] <;> rfl
  have hp : p = 1 ∨ p = 2 := by omega
  cases eP : r.getD k none with
  | none =>
    rcases hp with e | e
    · rw [one e, eP] at c
      simp at c
      left
      exact List.length_eq_zero_iff.mp (by omega)
    · subst e
      rw [two_known, eP] at c
      cases eQ : r.getD (k + 1) none with
      | none =>
        rw [eQ] at c
        simp at c
        left
        exact List.length_eq_zero_iff.mp (by omega)
      | some Qb =>
        rw [eQ] at c
        simp at c
        match hg : goneP k r with
        | [] => exact .inl rfl
        | [g] => exact .inr (.inr (.inl ⟨g, Qb, rfl, rfl, rfl, rfl⟩))
        | g :: h :: t => rw [hg] at c; simp at c; omega
  | some P =>
    rcases hp with e | e
    · rw [one e, eP] at c
      simp at c
      match hg : goneP k r with
      | [] => exact .inl rfl
      | [g] => exact .inr (.inl ⟨g, P, rfl, rfl⟩)
      | g :: h :: t => rw [hg] at c; simp at c; omega
    · subst e
      rw [two_known, eP] at c
      match hg : goneP k r with
      | [] => exact .inl rfl
      | [g] => exact .inr (.inl ⟨g, P, rfl, rfl⟩)
      | [g, h] =>
        cases eQ : r.getD (k + 1) none with
        | none => rw [eQ, hg] at c; simp at c; omega
        | some Qb => exact .inr (.inr (.inr ⟨g, h, P, Qb, rfl, rfl, rfl, rfl⟩))
      | g :: h :: u :: t =>
        rw [hg] at c
        cases eQ : r.getD (k + 1) none <;> rw [eQ] at c <;> simp at c <;> omega
theorem data0_wf {n k : Nat} {r : Row} (hw : WfO n r) : WfR n (data0 n k r) := fun b hb => by
  obtain ⟨o, ho, rfl⟩ := List.mem_map.mp hb
  cases o with
  | none => exact zeroB_wf
  | some b => exact hw _ (List.mem_of_mem_take ho) b rfl
theorem getD_some {r : Row} {i : Nat} {b : Blk} (h : r.getD i none = some b) : i < r.length ∧ some b ∈ r := by
  rw [List.getD_eq_getElem?_getD] at h
  cases e : r[i]? with
  | none => rw [e] at h; cases h
  | some o =>
    rw [e] at h
    have e2 : o = some b := h
    subst e2
    exact ⟨(List.getElem?_eq_some_iff.mp e).1, List.mem_of_getElem? e⟩
theorem set_wf {n g : Nat} {xs : List Blk} {b : Blk} (hw : WfR n xs) (hb : BlkOk' b n) : WfR n (xs.set g b) := fun c hc => by
  rcases List.mem_or_eq_of_mem_set hc with h | h
  · exact hw c h
  · rw [h]; exact hb
theorem dataTold_len {p n : Nat} {r : Row} (p1 : 1 ≤ p) (p2 : p ≤ 2) (pl : p ≤ r.length) (hk : r.length - p ≤ (known r).length) : (dataTold p n r).length = r.length - p := by
  have dl : (data0 n (r.length - p) r).length = r.length - p := data0_len (by omega)
  unfold dataTold
  simp only []
  split
  · exact dl
  · split <;> simp [dl]
  · simp [dl]
theorem dataTold_wf {p n : Nat} {r : Row} (p1 : 1 ≤ p) (p2 : p ≤ 2) (pl : p ≤ r.length) (hw : WfO n r) (hk : r.length - p ≤ (known r).length) : WfR n (dataTold p n r) := by
  have dw := data0_wf (k := r.length - p) hw
  have ws := sumB_wf dw
  have wt := sumB_wf (turnB_wf dw)
  have c4 := gone_cases (k := r.length - p) (by omega) p1 p2 hk
  unfold dataTold
  rcases c4 with e | ⟨g, P, e, eP⟩ | ⟨g, Qb, hp, e, eP, eQ⟩ | ⟨g, h, P, Qb, hp, e, eP, eQ⟩
  · simp only [e]; exact dw
  · simp only [e, eP]
    exact set_wf dw (xorB_wf (hw _ (getD_some eP).2 P rfl) ws)
  · simp only [e, eP, eQ, Option.getD_some]
    exact set_wf dw (mulB_wf (GF.inv_lt (GF.gp_lt 2 g)) (xorB_wf (hw _ (getD_some eQ).2 Qb rfl) wt))
  · simp only [e, eP, eQ, Option.getD_some]
    have wP := hw _ (getD_some eP).2 P rfl
    have wQ := hw _ (getD_some eQ).2 Qb rfl
    have one : BlkOk' (byPQ n (data0 n (r.length - p) r) g h P Qb) n := mulB_wf (GF.inv_lt (GF.xor8 (GF.gp_lt 2 g) (GF.gp_lt 2 h))) (xorB_wf (xorB_wf wQ wt) (mulB_wf (GF.gp_lt 2 h) (xorB_wf wP ws)))
    exact set_wf (set_wf dw one) (xorB_wf (xorB_wf wP ws) one)
theorem getD_range (r : Row) : (List.range r.length).map (fun i => r.getD i none) = r := by
  refine List.ext_getElem (by simp) fun i h1 h2 => ?_
  simp [List.getD, h2]
theorem known_len (r : Row) : (known r).length = (r.filter Option.isSome).length := by
  have e : r.filter Option.isSome = (known r).map fun i => r.getD i none := by
    unfold known
    conv => lhs; rw [← getD_range r]
    rw [List.filter_map]; rfl
  rw [e, List.length_map]
theorem known_set (r : Row) (v : Nat) : (known r).length ≤ (known (r.set v none)).length + 1 := by
  rw [known_len, known_len]
  by_cases h : v < r.length
  · have e : r = r.take v ++ r.getD v none :: r.drop (v + 1) := by
      refine List.ext_getElem (by simp; omega) fun i h1 h2 => ?_
      by_cases hi : i < v
      · rw [List.getElem_append_left (by simp; omega), List.getElem_take]
      · rw [List.getElem_append_right (by simp; omega)]
        by_cases hv : i = v
        · subst hv
          simp [List.getD, h, Nat.min_eq_left (Nat.le_of_lt h)]
        · have : i - (r.take v).length = (i - v - 1) + 1 := by simp; omega
          simp only [this, List.getElem_cons_succ, List.getElem_drop]
          congr 1; omega
    have e2 : r.set v none = r.take v ++ none :: r.drop (v + 1) := by rw [set_split h]
    rw [e2]
    conv => lhs; rw [e]
    rw [List.filter_append, List.filter_append, List.filter_cons, List.filter_cons]
    cases r.getD v none <;> simp <;> omega
  · rw [List.set_eq_of_length_le (by omega)]; omega
def rowOf (bs : List Blk) : Row := bs.map some
end
end Law
namespace Law
open PySem L2 HC PyProof.Rows
def Store.numN (s : Store) (row place : Nat) : Option Nat :=
  if s.wide row - s.head.par ≤ place then none
  else if s.kept ≤ row * (s.wide row - s.head.par) + place then none
  else if s.spotN (row * (s.wide row - s.head.par) + place) = (row, place) then some (row * (s.wide row - s.head.par) + place)
  else none
theorem num_some {s : Store} {r p n : Nat} (h : s.numN r p = some n) : n < s.kept ∧ s.spotN n = (r, p) := by
  unfold Store.numN at h
  split at h
  · cases h
  · split at h
    · cases h
    · split at h
      · next h1 h2 h3 =>
        cases h
        exact ⟨by omega, h3⟩
      · cases h
theorem spot_in {s : Store} (ok : s.Ok) {n : Nat} (h : n < s.kept) : (s.spotN n).1 < s.head.rows ∧ (s.spotN n).2 < s.wide (s.spotN n).1 - s.head.par ∧ s.wide (s.spotN n).1 - s.head.par ≤ s.wide (s.spotN n).1 ∧ (s.spotN n).1 * (s.wide (s.spotN n).1 - s.head.par) + (s.spotN n).2 = n := by
  have w1 := ok.head.width1
  have mv := ok.head.many
  unfold Store.kept at h
  unfold Store.spotN
  have k1 : 0 < s.head.width + 1 - s.head.par := by omega
  have k0 : 0 < s.head.width - s.head.par := by omega
  have e1 : s.head.width + 1 - s.head.par = s.head.width - s.head.par + 1 := by omega
  split
  · next hm =>
    show n / _ < _ ∧ n % _ < _ ∧ _ ≤ _ ∧ _
    have hw : s.wide (n / (s.head.width + 1 - s.head.par)) = s.head.width + 1 := by unfold Store.wide; rw [if_pos hm]
    rw [show (lay (s.head.width + 1 - s.head.par) n).1 = n / (s.head.width + 1 - s.head.par) from rfl, hw]
    refine ⟨by omega, Nat.mod_lt _ k1, by omega, ?_⟩
    show n / _ * _ + n % _ = n
    rw [Nat.mul_comm]
    exact Nat.div_add_mod n _
  · next hm =>
    have hr : s.head.moved ≤ n / (s.head.width - s.head.par) := by
      have : s.head.moved ≤ n / (s.head.width + 1 - s.head.par) := by omega
      exact Nat.le_trans this (Nat.div_le_div_left (by omega) k0)
    have hw : s.wide (n / (s.head.width - s.head.par)) = s.head.width := by unfold Store.wide; rw [if_neg (by omega)]; rfl
    rw [show (lay (s.head.width - s.head.par) n).1 = n / (s.head.width - s.head.par) from rfl, hw]
    refine ⟨(Nat.div_lt_iff_lt_mul k0).mpr h, Nat.mod_lt _ k0, by omega, ?_⟩
    show n / _ * _ + n % _ = n
    rw [Nat.mul_comm]
    exact Nat.div_add_mod n _
theorem num_spot {s : Store} (ok : s.Ok) {n : Nat} (h : n < s.kept) : s.numN (s.spotN n).1 (s.spotN n).2 = some n := by
  obtain ⟨h1, h2, h3, h4⟩ := spot_in ok h
  unfold Store.numN
  rw [if_neg (by omega), h4, if_neg (by omega), if_pos rfl]
end Law
namespace Law
open PySem L2 HC PyProof.Rows
def pcB (z at' : Nat) (told : Blk) (b : Nat) : Nat × Blk := (at' - b * z, (told.drop (b * z + (at' - b * z) - at')).take (z - (at' - b * z)))
abbrev Pcs := List (Nat × Nat × Blk)
abbrev Grp := List (Nat × Pcs)
def addG (g : Grp) (rp : Nat × Nat) (v : Nat × Blk) : Grp := match g.getLast? with
  | some x => if x.1 = rp.1 then g.dropLast ++ [(x.1, x.2 ++ [(rp.2, v)])] else g ++ [(rp.1, [(rp.2, v)])]
  | none => [(rp.1, [(rp.2, v)])]
def Store.grp (s : Store) (at' : Nat) (told : Blk) : Nat → Grp
  | 0 => []
  | i + 1 => addG (s.grp at' told i) (s.spotN (at' / s.head.size + i)) (pcB s.head.size at' told (at' / s.head.size + i))
def nBl (z at' n : Nat) : Nat := (at' + n - 1) / z - at' / z + 1
theorem spot_mono {s : Store} (ok : s.Ok) {n m : Nat} (h : n < m) : (s.spotN n).1 < (s.spotN m).1 ∨ ((s.spotN n).1 = (s.spotN m).1 ∧ (s.spotN n).2 < (s.spotN m).2) := by
  have w1 := ok.head.width1
  have p1 := ok.head.par1
  unfold Store.spotN
  generalize hk : s.head.width - s.head.par = k
  have hk1 : s.head.width + 1 - s.head.par = k + 1 := by omega
  rw [hk1]
  have k0 : 0 < k := by omega
  have lex : ∀ {q : Nat}, 0 < q → (n / q) < (m / q) ∨ ((n / q) = (m / q) ∧ (n % q) < (m % q)) := fun {q} q0 => by
    have a := Nat.div_add_mod n q
    have b := Nat.div_add_mod m q
    have le : n / q ≤ m / q := Nat.div_le_div_right (Nat.le_of_lt h)
    rcases Nat.lt_or_eq_of_le le with l | e
    · exact .inl l
    · rw [e] at a
      exact .inr ⟨e, by omega⟩
  by_cases h1 : n / (k + 1) < s.head.moved
  · rw [if_pos h1]
    by_cases h2 : m / (k + 1) < s.head.moved
    · rw [if_pos h2]; exact lex (by omega)
    · rw [if_neg h2]
      refine .inl ?_
      show n / (k + 1) < m / k
      have : m / (k + 1) ≤ m / k := Nat.div_le_div_left (by omega) k0
      omega
  · rw [if_neg h1]
    have h2 : ¬ m / (k + 1) < s.head.moved := by
      have : n / (k + 1) ≤ m / (k + 1) := Nat.div_le_div_right (Nat.le_of_lt h)
      omega
    rw [if_neg h2]; exact lex k0
structure GrpOk (g : Grp) (rp : Nat × Nat) : Prop where
  up : (g.map (·.1)).Pairwise (· < ·)
  pl : ∀ x ∈ g, (x.2.map (·.1)).Pairwise (· < ·)
  ne : ∀ x ∈ g, x.2 ≠ []
  bd : ∀ x ∈ g, x.1 < rp.1 ∨ (x.1 = rp.1 ∧ ∀ y ∈ x.2, y.1 < rp.2)
theorem last_split {α : Type} {g : List α} {x : α} (h : g.getLast? = some x) : g = g.dropLast ++ [x] := by
  cases g with
  | nil => cases h
  | cons a l =>
    rw [List.getLast?_eq_some_getLast (by simp)] at h
    cases h
    exact (List.dropLast_concat_getLast (by simp)).symm
theorem GrpOk.nil (rp : Nat × Nat) : GrpOk [] rp := ⟨.nil, fun x hx => by (cases hx), fun x hx => by (cases hx), fun x hx => by (cases hx)⟩
theorem GrpOk.step {g : Grp} {rp rp2 : Nat × Nat} {v : Nat × Blk} (h : GrpOk g rp) (hl : rp.1 < rp2.1 ∨ (rp.1 = rp2.1 ∧ rp.2 < rp2.2)) : GrpOk (addG g rp v) rp2 := by
  unfold addG
  cases e : g.getLast? with
  | none =>
    have : g = [] := List.getLast?_eq_none_iff.mp e
    subst this
    refine ⟨by simp, fun x hx => ?_, fun x hx => ?_, fun x hx => ?_⟩
    · rw [List.mem_singleton.mp hx]; simp
    · rw [List.mem_singleton.mp hx]; simp
    · rw [List.mem_singleton.mp hx]
      rcases hl with l | ⟨e1, l⟩
      · exact .inl l
      · exact .inr ⟨e1, fun y hy => by rw [List.mem_singleton.mp hy]; exact l⟩
  | some x =>
    have eg := last_split e
    have hx : x ∈ g := by rw [eg]; simp
    have up := h.up
    rw [eg, List.map_append, List.pairwise_append] at up
    simp only []
    by_cases hr : x.1 = rp.1
    · rw [if_pos hr]
      have bx := h.bd x hx
      have bx2 : ∀ y ∈ x.2, y.1 < rp.2 := by
        rcases bx with l | ⟨_, l⟩
        · omega
        · exact l
      refine ⟨?_, fun y hy => ?_, fun y hy => ?_, fun y hy => ?_⟩
      · rw [List.map_append, List.pairwise_append]
        exact ⟨up.1, by simp, fun a ha b hb => up.2.2 a ha b (by simpa using hb)⟩
      · rcases List.mem_append.mp hy with q | q
        · exact h.pl y (List.dropLast_subset _ q)
        · rw [List.mem_singleton.mp q, List.map_append, List.pairwise_append]
          refine ⟨h.pl x hx, by simp, fun a ha b hb => ?_⟩
          obtain ⟨y, hy, rfl⟩ := List.mem_map.mp ha
          have : b = rp.2 := by simpa using hb
          rw [this]
          exact bx2 y hy
      · rcases List.mem_append.mp hy with q | q
        · exact h.ne y (List.dropLast_subset _ q)
        · rw [List.mem_singleton.mp q]; simp
      · rcases List.mem_append.mp hy with q | q
        · have := up.2.2 y.1 (List.mem_map.mpr ⟨y, q, rfl⟩) x.1 (by simp)
          exact .inl (by omega)
        · rw [List.mem_singleton.mp q]
          rcases hl with l | ⟨e1, l⟩
          · exact .inl (by show x.1 < _; omega)
          · refine .inr ⟨by show x.1 = _; omega, fun z hz => ?_⟩
            rcases List.mem_append.mp hz with w | w
            · have := bx2 z w; omega
            · rw [List.mem_singleton.mp w]; exact l
    · rw [if_neg hr]
      have lt : ∀ y ∈ g, y.1 < rp.1 := fun y hy => by
        rw [eg] at hy
        rcases List.mem_append.mp hy with q | q
        · have h1 := up.2.2 y.1 (List.mem_map.mpr ⟨y, q, rfl⟩) x.1 (by simp)
          rcases h.bd x hx with l | ⟨l, _⟩ <;> omega
        · rw [List.mem_singleton.mp q]
          rcases h.bd x hx with l | ⟨l, _⟩ <;> omega
      refine ⟨?_, fun y hy => ?_, fun y hy => ?_, fun y hy => ?_⟩
      · rw [List.map_append, List.pairwise_append]
        refine ⟨h.up, by simp, fun a ha b hb => ?_⟩
        obtain ⟨y, hy, rfl⟩ := List.mem_map.mp ha
        have : b = rp.1 := by simpa using hb
        rw [this]
        exact lt y hy
      · rcases List.mem_append.mp hy with q | q
        · exact h.pl y q
        · rw [List.mem_singleton.mp q]; simp
      · rcases List.mem_append.mp hy with q | q
        · exact h.ne y q
        · rw [List.mem_singleton.mp q]; simp
      · rcases List.mem_append.mp hy with q | q
        · have := lt y q
          exact .inl (by omega)
        · rw [List.mem_singleton.mp q]
          rcases hl with l | ⟨e1, l⟩
          · exact .inl l
          · exact .inr ⟨e1, fun z hz => by rw [List.mem_singleton.mp hz]; exact l⟩
theorem grp_ok {s : Store} (ok : s.Ok) (at' : Nat) (told : Blk) : ∀ i, GrpOk (s.grp at' told i) (s.spotN (at' / s.head.size + i))
  | 0 => .nil _
  | i + 1 => (grp_ok ok at' told i).step (spot_mono ok (by omega))
def plD (l : Pcs) : List (Key × Dv) := l.map fun x => (.inl (x.1 : Int), .tup [dn x.2.1, bD x.2.2])
def grD (g : Grp) (as : List Addr) : List (Key × Dv) := List.zipWith (fun x a => (.inl (x.1 : Int), .ref a)) g as
structure GM (M : Ms) (f : Addr) (g : Grp) (as : List Addr) : Prop where
  len : as.length = g.length
  nd : as.Nodup
  nf : f ∉ as
  f : M f = some (.dic (grD g as))
  c : ∀ (i : Nat) (x : Nat × Pcs) (a : Addr), g[i]? = some x → as[i]? = some a → M a = some (.dic (plD x.2))
theorem getK_append {κ : Type} [DecidableEq κ] {l m : List (κ × Dv)} {k : κ} (h : ∀ x ∈ l, x.1 ≠ k) : getK (l ++ m) k = getK m k := by
  unfold getK
  rw [List.find?_append, List.find?_eq_none.mpr (by simpa using h)]
  rfl
theorem putA_new {κ : Type} [DecidableEq κ] {l : List (κ × Dv)} {k : κ} {d : Dv} (h : ∀ x ∈ l, x.1 ≠ k) : putA l k d = l ++ [(k, d)] := by
  unfold putA
  rw [if_neg]
  intro e
  obtain ⟨x, hx, q⟩ := List.any_eq_true.mp e
  exact h x hx (of_decide_eq_true q)
theorem getK_none {κ : Type} [DecidableEq κ] {l : List (κ × Dv)} {k : κ} (h : ∀ x ∈ l, x.1 ≠ k) : getK l k = none := by
  unfold getK
  rw [List.find?_eq_none.mpr (by simpa using h)]
  rfl
theorem grD_append {g : Grp} {as : List Addr} {x : Nat × Pcs} {a : Addr} (h : as.length = g.length) : grD (g ++ [x]) (as ++ [a]) = grD g as ++ [(.inl (x.1 : Int), .ref a)] := by
  unfold grD
  rw [List.zipWith_append h.symm]
  rfl
theorem grD_keys {g : Grp} {as : List Addr} {k : Nat} (h : ∀ x ∈ g, x.1 ≠ k) : ∀ y ∈ grD g as, y.1 ≠ (.inl (k : Int) : Key) := fun y hy e => by
  unfold grD at hy
  obtain ⟨i, hi, e2⟩ := List.mem_iff_getElem.mp hy
  rw [List.getElem_zipWith] at e2
  subst e2
  have hi1 : i < g.length := by
    rw [List.length_zipWith] at hi
    omega
  have e3 : ((g[i].1 : Nat) : Int) = (k : Int) := Sum.inl.inj e
  exact h _ (List.getElem_mem hi1) (by omega)
theorem GM.sub {M M' : Ms} {f : Addr} {g : Grp} {as : List Addr} (h : GM M f g as) (s : Sub M M') : GM M' f g as := ⟨h.len, h.nd, h.nf, s _ _ h.f, fun i x a e e2 => s _ _ (h.c i x a e e2)⟩
end Law
namespace Law
open PySem L2 HC PyProof.Rows
theorem addG_len (g : Grp) (rp : Nat × Nat) (v : Nat × Blk) : (addG g rp v).length ≤ g.length + 1 := by
  unfold addG
  cases e : g.getLast? with
  | none => simp
  | some x =>
    have hl : g ≠ [] := fun h => by rw [h] at e; cases e
    have := List.length_pos_iff.mpr hl
    simp only []
    split
    · simp; try omega
    · simp
theorem grD_len {g : Grp} {as : List Addr} (h : as.length = g.length) : (grD g as).length = g.length := by
  unfold grD
  rw [List.length_zipWith]
  omega
theorem GM.mem {M : Ms} {f : Addr} {g : Grp} {as : List Addr} (h : GM M f g as) {a : Addr} (ha : a ∈ as) : ∃ c, M a = some c := by
  obtain ⟨i, hi, e⟩ := List.mem_iff_getElem.mp ha
  have hg : i < g.length := by rw [← h.len]; exact hi
  exact ⟨_, h.c i g[i] a (List.getElem?_eq_getElem hg) (by rw [List.getElem?_eq_getElem hi, e])⟩
theorem GM.last {M : Ms} {f : Addr} {g : Grp} {as : List Addr} (h : GM M f g as) {x : Nat × Pcs} (e : g.getLast? = some x) : ∃ g' as' a, g = g' ++ [x] ∧ as = as' ++ [a] ∧ as'.length = g'.length := by
  have eg := last_split e
  have l := h.len
  have l2 : as ≠ [] := fun q => by
    rw [q, eg] at l
    simp at l
  refine ⟨g.dropLast, as.dropLast, as.getLast l2, eg, (List.dropLast_concat_getLast l2).symm, by rw [List.length_dropLast, List.length_dropLast, l]⟩
theorem GM.put {M : Ms} {f a : Addr} {g : Grp} {as : List Addr} {x : Nat × Pcs} {y : Nat × Nat × Blk} (h : GM M f (g ++ [x]) (as ++ [a])) (l : as.length = g.length) : GM (mup M a (.dic (plD (x.2 ++ [y])))) f (g ++ [(x.1, x.2 ++ [y])]) (as ++ [a]) := by
  have nf : f ≠ a := fun e => h.nf (by rw [e]; simp)
  refine ⟨by simp [l], h.nd, h.nf, ?_, fun i z b e e2 => ?_⟩
  · rw [mup_ne nf, h.f, grD_append l, grD_append l]
  · by_cases hi : i < g.length
    · rw [List.getElem?_append_left hi] at e
      rw [List.getElem?_append_left (by omega)] at e2
      have ba : b ≠ a := fun q => by
        subst q
        have := List.nodup_append.mp h.nd
        exact this.2.2 b (List.mem_of_getElem? e2) b (by simp) rfl
      rw [mup_ne ba]
      exact h.c i z b (by rw [List.getElem?_append_left hi]; exact e) (by rw [List.getElem?_append_left (by omega)]; exact e2)
    · have hi2 : i = g.length := by
        have := (List.getElem?_eq_some_iff.mp e).1
        simp at this
        omega
      subst hi2
      rw [List.getElem?_append_right (Nat.le_refl _), Nat.sub_self] at e
      rw [← l, List.getElem?_append_right (Nat.le_refl _), Nat.sub_self] at e2
      cases e
      cases e2
      exact mup_same
theorem GM.more {M : Ms} {f p : Addr} {g : Grp} {as : List Addr} {x : Nat × Pcs} {c : Cell} (h : GM M f g as) (hp : M p = some c) (np : p ∉ as) (pf : f ≠ p) : GM (mup (mup M f (.dic (grD g as ++ [(.inl (x.1 : Int), .ref p)]))) p (.dic (plD x.2))) f (g ++ [x]) (as ++ [p]) := by
  refine ⟨by simp [h.len], ?_, ?_, ?_, fun i z b e e2 => ?_⟩
  · rw [List.nodup_append]
    exact ⟨h.nd, by simp, fun a ha b hb e => np (by have : b = p := by simpa using hb
                                                    rw [← this, ← e]; exact ha)⟩
  · intro q
    rcases List.mem_append.mp q with q | q
    · exact h.nf q
    · exact pf (by simpa using q)
  · rw [mup_ne pf, mup_same, grD_append h.len]
  · by_cases hi : i < g.length
    · rw [List.getElem?_append_left hi] at e
      rw [List.getElem?_append_left (by rw [h.len]; exact hi)] at e2
      have hb := List.mem_of_getElem? e2
      rw [mup_ne (show b ≠ p from fun q => np (by rw [← q]; exact hb)), mup_ne (show b ≠ f from fun q => h.nf (by rw [← q]; exact hb))]
      exact h.c i z b e e2
    · have hi2 : i = g.length := by
        have := (List.getElem?_eq_some_iff.mp e).1
        simp at this
        omega
      subst hi2
      rw [List.getElem?_append_right (Nat.le_refl _), Nat.sub_self] at e
      rw [← h.len, List.getElem?_append_right (Nat.le_refl _), Nat.sub_self] at e2
      cases e
      cases e2
      exact mup_same
end Law
namespace Law
open PySem L2 HC PyProof.Rows
theorem GrpOk.lastRow {g : Grp} {rr pl : Nat} (h : GrpOk g (rr, pl)) {x : Nat × Pcs} (hx : x ∈ g) (e : x.1 = rr) : ∃ g', ∃ y : Nat × Pcs, g = g' ++ [y] ∧ g.getLast? = some y ∧ y.1 = rr ∧ (∀ z ∈ g', z.1 ≠ rr) ∧ ∀ z ∈ y.2, z.1 < pl := by
  have h0 : g ≠ [] := fun q => by rw [q] at hx; cases hx
  have el := List.getLast?_eq_some_getLast h0
  have eg := last_split el
  generalize g.getLast h0 = y at el eg
  have hy : y ∈ g := by rw [eg]; simp
  have up := h.up
  rw [eg, List.map_append, List.pairwise_append] at up
  have yr : y.1 = rr := by
    have b := h.bd y hy
    have : x.1 ≤ y.1 := by
      rw [eg] at hx
      rcases List.mem_append.mp hx with q | q
      · exact Nat.le_of_lt (up.2.2 x.1 (List.mem_map.mpr ⟨x, q, rfl⟩) y.1 (by simp))
      · rw [List.mem_singleton.mp q]; exact Nat.le_refl _
    rcases b with l | ⟨l, _⟩
    · have l : y.1 < rr := l
      omega
    · exact l
  refine ⟨_, y, eg, el, yr, fun z hz q => ?_, fun z hz => ?_⟩
  · have := up.2.2 z.1 (List.mem_map.mpr ⟨z, hz, rfl⟩) y.1 (by simp)
    omega
  · rcases h.bd y hy with l | ⟨_, l⟩
    · have l : y.1 < rr := l
      omega
    · exact l z hz
end Law
namespace Law
open PySem L2 HC PyProof.Rows
def setPc (d : List Blk) (x : Nat × Nat × Blk) : List Blk := d.set x.1 ((d.getD x.1 []).take x.2.1 ++ x.2.2 ++ (d.getD x.1 []).drop (x.2.1 + x.2.2.length))
def Store.newD (s : Store) (row : Nat) (l : Pcs) : List Blk := l.foldl setPc (dataTold s.head.par s.head.size (s.row row))
def Store.fullN (s : Store) (row : Nat) (l : Pcs) : List Blk := s.newD row l ++ parB s.head.par s.head.size (s.newD row l)
def noteAt (s : Store) (row : Nat) (full : List Blk) (p : Nat) : Option BN := if (s.disks.getD ((row + p) % s.wide row) none).isSome then some ((row + p) % s.wide row, row, full.getD p []) else none
def Store.rowN (s : Store) (row : Nat) (l : Pcs) : List BN := ((l.map (·.1)) ++ (List.range s.head.par).map (s.wide row - s.head.par + ·)).filterMap (noteAt s row (s.fullN row l))
theorem sorted_nats {L : List Int} {P : List Nat} (hp : L.Perm (P.map fun n : Nat => (n : Int))) (hs : L.Pairwise (· ≤ ·)) (hu : P.Pairwise (· < ·)) : L = P.map fun n : Nat => (n : Int) := by
  refine List.Perm.eq_of_pairwise (le := fun a b : Int => a ≤ b) (fun a b _ _ h1 h2 => Int.le_antisymm h1 h2) hs ?_ hp
  rw [List.pairwise_map]
  exact hu.imp fun h => Int.ofNat_le.mpr (Nat.le_of_lt h)
theorem setPc_len (d : List Blk) (x : Nat × Nat × Blk) : (setPc d x).length = d.length := by simp [setPc]
theorem setPc_wf {n : Nat} {d : List Blk} {x : Nat × Nat × Blk} (hw : WfR n d) (hx : x.1 < d.length) (hl : x.2.1 + x.2.2.length ≤ n) (hb : ∀ y ∈ x.2.2, y < 256) : WfR n (setPc d x) := fun b h => by
  rcases List.mem_or_eq_of_mem_set h with h | rfl
  · exact hw b h
  · obtain ⟨l, lt⟩ := hw _ (getD_mem hx)
    refine ⟨?_, fun y hy => ?_⟩
    · rw [List.length_append, List.length_append, List.length_take, List.length_drop, l]
      omega
    · rcases List.mem_append.mp hy with q | q
      · rcases List.mem_append.mp q with q | q
        · exact lt y (List.mem_of_mem_take q)
        · exact hb y q
      · exact lt y (List.mem_of_mem_drop q)
theorem fold_pc {n k : Nat} : ∀ {l : Pcs} {d : List Blk}, WfR n d → d.length = k → (∀ x ∈ l, x.1 < k ∧ x.2.1 + x.2.2.length ≤ n ∧ ∀ y ∈ x.2.2, y < 256) → WfR n (l.foldl setPc d) ∧ (l.foldl setPc d).length = k
  | [], _, hw, hl, _ => ⟨hw, hl⟩
  | x :: l, d, hw, hl, h => by
    obtain ⟨h1, h2, h3⟩ := h x List.mem_cons_self
    exact fold_pc (l := l) (d := setPc d x) (setPc_wf hw (by omega) h2 h3) (by rw [setPc_len, hl]) fun y hy => h y (List.mem_cons_of_mem _ hy)
theorem row_wf {s : Store} (ok : s.Ok) (row : Nat) : WfO s.head.size (s.row row) := fun o ho b hb => by
  unfold Store.row at ho
  obtain ⟨j, hj, rfl⟩ := List.mem_map.mp ho
  unfold Store.cell at hb
  cases e : s.disks.getD ((row + j) % s.wide row) none with
  | none => rw [e] at hb; cases hb
  | some bs =>
    rw [e] at hb
    have hb : bs.getD row none = some b := hb
    have dk := ok.disk (i := (row + j) % s.wide row) bs e
    have hr : some b ∈ bs := by
      rw [List.getD_eq_getElem?_getD] at hb
      cases q : bs[row]? with
      | none => rw [q] at hb; cases hb
      | some o =>
        rw [q] at hb
        have hb : o = some b := hb
        rw [← hb]
        exact List.mem_of_getElem? q
    exact dk.2 _ hr b rfl
end Law
namespace Law
theorem asc_len : ∀ {P : List Nat} {n : Nat}, P.Pairwise (· < ·) → (∀ p ∈ P, p < n) → P.length ≤ n := by
  have main : ∀ (P : List Nat) (n a : Nat), P.Pairwise (· < ·) → (∀ p ∈ P, p < n) → (∀ p ∈ P, a ≤ p) → a ≤ n → P.length + a ≤ n := fun P => by
    induction P with
    | nil => intro n a _ _ _ h; simpa using h
    | cons x P ih =>
      intro n a hp hn ha _
      have hx := hn x List.mem_cons_self
      have h := ih n (x + 1) (List.pairwise_cons.mp hp).2 (fun p hq => hn p (List.mem_cons_of_mem _ hq)) (fun p hq => (List.pairwise_cons.mp hp).1 p hq) hx
      have := ha x List.mem_cons_self
      rw [List.length_cons]
      omega
  intro P n hp hn
  have := main P n 0 hp hn (fun _ _ => Nat.zero_le _) (Nat.zero_le _)
  omega
end Law
namespace Law
open PySem L2 HC PyProof.Rows
def deedC (bs : List BN) (w m : Nat) : List Chg := bs.map (fun x => Chg.note (noteB' x)) ++ [.note (.fin bs.length w m)] ++ (bs.map chgB ++ [.head w m, .clear])
theorem fold_notes : ∀ (xs : List Note) (s : Store), (xs.map Chg.note).foldl applyC s = ⟨s.head, s.disks, s.journal ++ xs⟩
  | [], s => by simp
  | x :: xs, s => by
    rw [List.map_cons, List.foldl_cons, fold_notes xs]
    simp [applyC]
theorem cvs_notes : ∀ (xs : List Note) (s : Store), (∀ x ∈ xs, noteLen x ≤ 16) → CVs s (xs.map Chg.note)
  | [], _, _ => trivial
  | x :: xs, s, h => ⟨h x List.mem_cons_self, cvs_notes xs _ fun y hy => h y (List.mem_cons_of_mem _ hy)⟩
def Store.notesW (s : Store) (a : Nat) (told : Blk) : List BN := (s.grp a told (nBl s.head.size a told.length)).flatMap fun x => s.rowN x.1 x.2
def Store.wrote (s : Store) (a : Nat) (told : Blk) : List Chg := if told = [] then [] else deedC (s.notesW a told) s.head.width s.head.moved
theorem mem_addG {g : Grp} {rp : Nat × Nat} {v : Nat × Blk} {x : Nat × Pcs} (h : x ∈ addG g rp v) : (∃ y ∈ g, x = y) ∨ (∃ y ∈ g, x = (y.1, y.2 ++ [(rp.2, v)]) ∧ y.1 = rp.1) ∨ x = (rp.1, [(rp.2, v)]) := by
  unfold addG at h
  cases e : g.getLast? with
  | none =>
    rw [e] at h
    exact .inr (.inr (List.mem_singleton.mp h))
  | some y =>
    rw [e] at h
    have hy : y ∈ g := by rw [last_split e]; simp
    simp only [] at h
    split at h
    · next hr =>
      rcases List.mem_append.mp h with q | q
      · exact .inl ⟨x, List.dropLast_subset _ q, rfl⟩
      · exact .inr (.inl ⟨y, hy, List.mem_singleton.mp q, hr⟩)
    · rcases List.mem_append.mp h with q | q
      · exact .inl ⟨x, q, rfl⟩
      · exact .inr (.inr (List.mem_singleton.mp q))
theorem pcB_ok {z a b : Nat} {told : Blk} (h : a < b * z + z) : (pcB z a told b).1 + (pcB z a told b).2.length ≤ z ∧ ∀ y ∈ (pcB z a told b).2, y ∈ told := by
  unfold pcB
  refine ⟨?_, fun y hy => List.mem_of_mem_drop (List.mem_of_mem_take hy)⟩
  rw [List.length_take]
  omega
theorem grp_pcs {s : Store} (ok : s.Ok) {a : Nat} {told : Blk} (hb : ∀ y ∈ told, y < 256) : ∀ i, (a / s.head.size + i) ≤ s.kept → ∀ x ∈ s.grp a told i, x.1 < s.head.rows ∧ ∀ y ∈ x.2, y.1 < s.wide x.1 - s.head.par ∧ y.2.1 + y.2.2.length ≤ s.head.size ∧ ∀ w ∈ y.2.2, w < 256
  | 0, _, x, hx => by cases hx
  | i + 1, hk, x, hx => by
    have z1 := ok.head.size1
    have ih := grp_pcs ok (a := a) hb i (by omega)
    obtain ⟨a1, a2, _⟩ := spot_in ok (n := a / s.head.size + i) (by omega)
    have hl : a < (a / s.head.size + i) * s.head.size + s.head.size := by
      have d0 := Nat.div_add_mod a s.head.size
      have m0 := Nat.mod_lt a (show 0 < s.head.size by omega)
      have : a / s.head.size * s.head.size ≤ (a / s.head.size + i) * s.head.size := Nat.mul_le_mul_right _ (by omega)
      rw [Nat.mul_comm] at d0
      omega
    obtain ⟨p1, p2⟩ := pcB_ok (told := told) hl
    rcases mem_addG hx with ⟨y, hy, rfl⟩ | ⟨y, hy, rfl, er⟩ | rfl
    · exact ih x hy
    · refine ⟨(ih y hy).1, fun w hw => ?_⟩
      rcases List.mem_append.mp hw with q | q
      · exact (ih y hy).2 w q
      · rw [List.mem_singleton.mp q]
        refine ⟨?_, p1, fun v hv => hb v (p2 v hv)⟩
        show _ < s.wide y.1 - s.head.par
        rw [er]
        exact a2
    · refine ⟨a1, fun w hw => ?_⟩
      rw [List.mem_singleton.mp hw]
      exact ⟨a2, p1, fun v hv => hb v (p2 v hv)⟩
theorem rowN_ok {s : Store} {row : Nat} {l : Pcs} (w0 : 0 < s.wide row) (hd : s.wide row ≤ s.disks.length) (hr : row < s.head.rows) (hf : ∀ b ∈ s.fullN row l, b.length ≤ 16) : BOk s.disks.length s.head.rows (s.rowN row l) := fun x hx => by
  unfold Store.rowN at hx
  obtain ⟨p, hp, e⟩ := List.mem_filterMap.mp hx
  unfold noteAt at e
  split at e
  · cases e
    refine ⟨Nat.lt_of_lt_of_le (Nat.mod_lt _ w0) hd, hr, ?_⟩
    show ((s.fullN row l).getD p []).length ≤ 16
    rw [List.getD_eq_getElem?_getD]
    cases q : (s.fullN row l)[p]? with
    | none => simp
    | some b => exact hf b (List.mem_of_getElem? q)
  · cases e
end Law
namespace Law
open PySem L2 HC PyProof.Rows
theorem sc_ok {s : Store} (ok : s.Ok) (hj : s.journal = []) (n : Nat) : SC s n := by
  have w1 := ok.head.width1
  have h := ok.head.many
  refine ⟨by omega, by have := ok.many_le; omega, ok.head.rows1, ok.head.rows2, ok.head.size2, fun k hk bs e => ?_, by rw [hj]; simp, fun x hx => by rw [hj] at hx; cases hx⟩
  obtain ⟨h1, h2⟩ := ok.disks k hk bs e
  refine ⟨h1, fun o ho b eb => ?_⟩
  have := (h2 o ho b eb).1
  have := ok.head.size2
  omega
theorem grD_fst : ∀ {g : Grp} {as : List Addr}, as.length = g.length → (grD g as).map (·.1) = (g.map fun x => (x.1 : Int)).map Sum.inl
  | [], [], _ => rfl
  | [], _ :: _, h => by simp at h
  | _ :: _, [], h => by simp at h
  | x :: g, a :: as, h => by
    have := grD_fst (g := g) (as := as) (by simpa using h)
    unfold grD at this ⊢
    rw [List.zipWith_cons_cons, List.map_cons, this]
    rfl
theorem newD_ok {s : Store} (ok : s.Ok) {row : Nat} {l : Pcs} (hk : s.wide row - s.head.par ≤ (known (s.row row)).length) (hl : ∀ y ∈ l, y.1 < s.wide row - s.head.par ∧ y.2.1 + y.2.2.length ≤ s.head.size ∧ ∀ w ∈ y.2.2, w < 256) :
    WfR s.head.size (s.newD row l) ∧ (s.newD row l).length = s.wide row - s.head.par := by
  have p1 := ok.head.par1
  have p2 := ok.head.par2
  have w0 := ok.wide_pos row
  have w10 := ok.wide_ten row
  have rl : (s.row row).length = s.wide row := Store.row_len
  have dl := dataTold_len (n := s.head.size) (r := s.row row) p1 p2 (by omega) (by rw [rl]; exact hk)
  have dw := dataTold_wf p1 p2 (by omega) (row_wf ok row) (by rw [rl]; exact hk)
  rw [rl] at dl
  exact fold_pc dw dl hl
theorem rowN_len (s : Store) {row : Nat} {l : Pcs} (hu : (l.map (·.1)).Pairwise (· < ·)) (hl : ∀ y ∈ l, y.1 < s.wide row - s.head.par) (w0 : s.head.par < s.wide row) : (s.rowN row l).length ≤ s.wide row := by
  unfold Store.rowN
  refine Nat.le_trans (List.length_filterMap_le _ _) ?_
  have := asc_len hu (n := s.wide row - s.head.par) fun q hq => by
    obtain ⟨x, hx, rfl⟩ := List.mem_map.mp hq
    exact hl x hx
  rw [List.length_append, List.length_map, List.length_map, List.length_range]
  rw [List.length_map] at this
  omega
theorem rowN_blk {s : Store} (ok : s.Ok) {row : Nat} {l : Pcs} (hr : row < s.head.rows) (hk : s.wide row - s.head.par ≤ (known (s.row row)).length) (hl : ∀ y ∈ l, y.1 < s.wide row - s.head.par ∧ y.2.1 + y.2.2.length ≤ s.head.size ∧ ∀ w ∈ y.2.2, w < 256) : BOk s.disks.length s.head.rows (s.rowN row l) := by
  have w0 := ok.wide_pos row
  obtain ⟨h1, h2⟩ := newD_ok ok hk hl
  refine rowN_ok (by omega) (ok.wide_le row) hr fun b hb => ?_
  have z2 := ok.head.size2
  have : b.length = s.head.size := by
    rcases List.mem_append.mp hb with q | q
    · exact (h1 b q).1
    · exact (parB_wf h1 b q).1
  omega
end Law
namespace Law
open PySem L2 HC PyProof.Rows
def noneN (r : Row) : Nat := (r.filter Option.isNone).length
theorem noneN_known (r : Row) : noneN r + (known r).length = r.length := by
  rw [known_len]
  unfold noneN
  induction r with
  | nil => rfl
  | cons o r ih => cases o <;> simp <;> omega
end Law
namespace Law
open PySem L2 HC PyProof.Rows
end Law
namespace Law
open PySem L2 HC PyProof.Rows
end Law
namespace Law
open PySem L2 HC PyProof.Rows
end Law
namespace Law
open PySem L2 HC PyProof.Rows
end Law
namespace Law
open PySem L2 HC PyProof.Rows
def filledR (p n : Nat) (r : Row) : List Blk := dataTold p n r ++ parB p n (dataTold p n r)
def holdsB (p n : Nat) (r : Row) : Bool := decide ((known r).length < r.length - p) || (List.range r.length).all fun i => (r.getD i none).isNone || decide (r.getD i none = some ((filledR p n r).getD i []))
def wrongs (p n : Nat) (r : Row) : List Nat := (List.range r.length).filter fun j => holdsB p n (r.set j none)
def verdictD (p n : Nat) (r : Row) : Dv :=
  if p < r.length - (known r).length then .tup [.str ("lost" : Str)]
  else if r.length - (known r).length = p then .tup [.str ("bare" : Str)]
  else if holdsB p n r = true then .tup [.str ("holds" : Str)]
  else if p = 2 ∧ r.length - (known r).length = 0 then (match wrongs p n r with | [] => .tup [.str ("unlike" : Str)] | j :: _ => .tup [.str ("wrong" : Str), dn j])
  else .tup [.str ("unlike" : Str)]
section
variable {p n : Nat} {ds : List Blk} {r : Row}
theorem holds_of (p1 : 1 ≤ p) (p2 : p ≤ 2) (hw : WfR n ds) (hl : ds.length ≤ 255) (h : Hides p n ds r) : holdsB p n r = true := by
  unfold holdsB
  by_cases hk : (known r).length < r.length - p
  · rw [decide_eq_true hk, Bool.true_or]
  · have e := dataTold_code p1 p2 hw hl h (by have := h.1; omega)
    rw [Bool.or_eq_true, List.all_eq_true]
    right
    intro i _
    rw [Bool.or_eq_true, decide_eq_true_eq]
    cases q : r.getD i none with
    | none => left; rfl
    | some b =>
      right
      rw [filledR, e, h.2 i b q]
theorem holds_inv (p1 : 1 ≤ p) (p2 : p ≤ 2) (pl : p ≤ r.length) (hw : WfO n r) (hk : r.length - p ≤ (known r).length) (h : holdsB p n r = true) : WfR n (dataTold p n r) ∧ (dataTold p n r).length = r.length - p ∧ Hides p n (dataTold p n r) r := by
  have dl := dataTold_len (n := n) p1 p2 pl hk
  refine ⟨dataTold_wf p1 p2 pl hw hk, dl, by omega, fun i b e => ?_⟩
  unfold holdsB at h
  rw [decide_eq_false (by omega), Bool.false_or, List.all_eq_true] at h
  have hi := (getD_some e).1
  have := h i (List.mem_range.mpr hi)
  rw [e] at this
  simp only [Option.isNone_some, Bool.false_or, decide_eq_true_eq, Option.some.injEq] at this
  exact this.symm
theorem hides_one {es : List Blk} (p1 : 1 ≤ p) (p2 : p ≤ 2) (hw : WfR n ds) (hw' : WfR n es) (hl : ds.length ≤ 255) (h : Hides p n ds r) (h' : Hides p n es r) (hk : ds.length ≤ (known r).length) : ds = es := by
  have e := dataTold_code p1 p2 hw hl h hk
  have hle : es.length = ds.length := by have := h.1; have := h'.1; omega
  have e' := dataTold_code p1 p2 hw' (by omega) h' (by omega)
  rw [← e, ← e']
end
section
variable {p n g : Nat} {ds : List Blk} {b : Blk}
def wrongR (p n g : Nat) (ds : List Blk) (b : Blk) : Row := (rowOf (ds ++ parB p n ds)).set g (some b)
theorem rowOf_at {bs : List Blk} {i : Nat} (h : i < bs.length) : (rowOf bs).getD i none = some (bs.getD i []) := by
  rw [rowOf, List.getD_eq_getElem?_getD, List.getElem?_map, List.getElem?_eq_getElem h, List.getD_eq_getElem?_getD, List.getElem?_eq_getElem h]
  rfl
theorem getD_setO {r : Row} {g i : Nat} {o : Option Blk} (hg : g < r.length) : (r.set g o).getD i none = if g = i then o else r.getD i none := by
  rw [List.getD_eq_getElem?_getD, List.getElem?_set]
  by_cases e : g = i
  · subst e; rw [if_pos rfl, if_pos rfl, if_pos hg]; rfl
  · rw [if_neg e, if_neg e, List.getD_eq_getElem?_getD]
theorem row_len (p1 : 1 ≤ p) (p2 : p ≤ 2) : (rowOf (ds ++ parB p n ds)).length = ds.length + p := by
  rw [rowOf, List.length_map, List.length_append, parB_len p1 p2]
theorem known_set1 (r : Row) (v : Nat) (b : Blk) : (known r).length ≤ (known (r.set v (some b))).length := by
  by_cases h : v < r.length
  · unfold known
    rw [List.length_set]
    rw [← List.countP_eq_length_filter, ← List.countP_eq_length_filter]
    refine List.countP_mono_left ?_
    intro i _ hi
    rw [getD_setO h]
    split
    · rfl
    · exact hi
  · rw [List.set_eq_of_length_le (by omega)]; exact Nat.le_refl _
theorem wrong_len (p1 : 1 ≤ p) (p2 : p ≤ 2) : (wrongR p n g ds b).length = ds.length + p := by
  rw [wrongR, List.length_set, row_len p1 p2]
theorem set_wfo {r : Row} {j : Nat} (hw : WfO n r) : WfO n (r.set j none) := fun o ho c e => by
  subst e
  rcases List.mem_or_eq_of_mem_set ho with h | h
  · exact hw _ h c rfl
  · cases h
theorem v_holds {r : Row} (p1 : 1 ≤ p) (p2 : p ≤ 2) (hw : WfR n ds) (hl : ds.length ≤ 255) (h : Hides p n ds r) (hk : ds.length + 1 ≤ (known r).length) : verdictD p n r = .tup [.str ("holds" : Str)] := by
  have := h.1
  unfold verdictD
  rw [if_neg (by omega), if_neg (by omega), holds_of p1 p2 hw hl h, if_pos rfl]
end
end Law
namespace Law
open PySem L2 HC PyProof.Rows
section
variable {n : Nat} {ds : List Blk}
variable {g h : Nat} {b c : Blk}
end
end Law
namespace Law
open PySem L2 HC PyProof.Rows
def SX (f : Nat → Nat) : Nat → Nat
  | 0 => 0
  | k + 1 => SX f k ^^^ f k
theorem SX_congr {f g : Nat → Nat} : ∀ {k}, (∀ i, i < k → f i = g i) → SX f k = SX g k
  | 0, _ => rfl
  | k + 1, h => by rw [SX, SX, SX_congr fun i hi => h i (by omega), h k (by omega)]
theorem SX_zero {f : Nat → Nat} : ∀ {k}, (∀ i, i < k → f i = 0) → SX f k = 0
  | 0, _ => rfl
  | k + 1, h => by rw [SX, SX_zero fun i hi => h i (by omega), h k (by omega)]; rfl
theorem SX_xor (f g : Nat → Nat) : ∀ k, SX (fun i => f i ^^^ g i) k = SX f k ^^^ SX g k
  | 0 => (Nat.xor_self 0).symm
  | k + 1 => by rw [SX, SX, SX, SX_xor f g k, GF.xor4]
theorem SX_gt (c : Nat) (f : Nat → Nat) : ∀ k, SX (fun i => GF.gt c (f i)) k = GF.gt c (SX f k)
  | 0 => (GF.gt_zero c).symm
  | k + 1 => by
    rw [SX, SX, SX_gt c f k]
    exact (GF.lin_Gb 8 c _ _).symm
theorem SX_one {f : Nat → Nat} {j : Nat} : ∀ {k}, j < k → (∀ i, i < k → i ≠ j → f i = 0) → SX f k = f j
  | 0, h, _ => by omega
  | k + 1, h, hz => by
    rw [SX]
    by_cases e : j = k
    · subst e
      rw [SX_zero fun i hi => hz i (by omega) (by omega), Nat.zero_xor]
    · rw [SX_one (j := j) (by omega) fun i hi => hz i (by omega), hz k (by omega) (Ne.symm e), Nat.xor_zero]
theorem gt_xor_l (a b c : Nat) : GF.gt (a ^^^ b) c = GF.gt a c ^^^ GF.gt b c := GF.lin_Ga 8 c a b
def LV (k : Nat) (l : Blk) (v : Nat → Nat) : Nat := SX (fun i => GF.gt (l.getD i 0) (v i)) k
structure Lk (k : Nat) (l : Blk) : Prop where
  len : l.length = k
  lt : ∀ x ∈ l, x < 256
theorem Lk.get {k : Nat} {l : Blk} (h : Lk k l) (i : Nat) : l.getD i 0 < 256 := by
  rw [List.getD_eq_getElem?_getD]
  by_cases hi : i < l.length
  · rw [List.getElem?_eq_getElem hi]; exact h.lt _ (List.getElem_mem hi)
  · rw [List.getElem?_eq_none (by omega)]; show 0 < 256; decide
theorem LV_mul {k f : Nat} {l : Blk} {v : Nat → Nat} (hl : Lk k l) (hf : f < 256) (hv : ∀ i, v i < 256) : LV k (mulB f l) v = GF.gt f (LV k l v) := by
  unfold LV
  rw [← SX_gt]
  refine SX_congr fun i hi => ?_
  rw [mulB_getD (by rw [hl.len]; exact hi), GF.gt_assoc hf (hl.get i) (hv i)]
theorem LV_add {k : Nat} {l m : Blk} {v : Nat → Nat} (hl : Lk k l) (hm : Lk k m) : LV k (xorB l m) v = LV k l v ^^^ LV k m v := by
  unfold LV
  rw [← SX_xor]
  refine SX_congr fun i hi => ?_
  rw [xorB_getD (by rw [hl.len]; exact hi) (by rw [hm.len]; exact hi), gt_xor_l]
theorem Lk.mul {k f : Nat} {l : Blk} (h : Lk k l) (hf : f < 256) : Lk k (mulB f l) := ⟨by rw [mulB, List.length_map, h.len], fun x hx => by
  obtain ⟨y, _, rfl⟩ := List.mem_map.mp hx
  exact GF.gt_lt y hf⟩
theorem Lk.add {k : Nat} {l m : Blk} (h : Lk k l) (h' : Lk k m) : Lk k (xorB l m) := by
  have := xorB_wf (n := k) ⟨h.len, h.lt⟩ ⟨h'.len, h'.lt⟩
  exact ⟨this.1, this.2⟩
abbrev Eq2 := Blk × Blk
def lessR (a b : Eq2) (f : Nat) : Eq2 := (xorB a.1 (mulB f b.1), xorB a.2 (mulB f b.2))
def Tells (k n : Nat) (D : Nat → Blk) (e : Eq2) : Prop := ∀ t, t < n → LV k e.1 (fun i => (D i).getD t 0) = e.2.getD t 0
structure EqOk (k n : Nat) (e : Eq2) : Prop where
  l : Lk k e.1
  b : Lk n e.2
theorem EqOk.less {k n f : Nat} {a b : Eq2} (h : EqOk k n a) (h' : EqOk k n b) (hf : f < 256) : EqOk k n (lessR a b f) := ⟨h.l.add (h'.l.mul hf), h.b.add (h'.b.mul hf)⟩
def Dok (n : Nat) (D : Nat → Blk) : Prop := ∀ i, Lk n (D i)
theorem less_back {k n f : Nat} {a b : Eq2} {D : Nat → Blk} (ha : EqOk k n a) (hb : EqOk k n b) (hf : f < 256) (hD : Dok n D) (q : Tells k n D (lessR a b f)) (q' : Tells k n D b) : Tells k n D a := fun t ht => by
  have h1 := q t ht
  have h2 := q' t ht
  unfold lessR at h1
  simp only at h1
  rw [LV_add ha.l (hb.l.mul hf), LV_mul hb.l hf (fun i => (hD i).get t), h2, xorB_getD (by rw [ha.b.len]; exact ht) (by rw [(hb.b.mul hf).len]; exact ht), mulB_getD (by rw [hb.b.len]; exact ht)] at h1
  have := congrArg (· ^^^ GF.gt f (b.2.getD t 0)) h1
  simp only [Nat.xor_assoc, Nat.xor_self, Nat.xor_zero] at this
  exact this
def Ker (k : Nat) (R : Nat → Eq2) : Prop := ∀ v : Nat → Nat, (∀ i, v i < 256) → (∀ j, j < k → LV k (R j).1 v = 0) → ∀ i, i < k → v i = 0
def Sol (k n : Nat) (R R0 : Nat → Eq2) : Prop := ∀ D, Dok n D → (∀ j, j < k → Tells k n D (R j)) → ∀ j, j < k → Tells k n D (R0 j)
def Form (k c : Nat) (R : Nat → Eq2) : Prop := ∀ j, j < k → ∀ i, i < c → (R j).1.getD i 0 = if j = i then 1 else 0
structure Inv (k n c : Nat) (R R0 : Nat → Eq2) : Prop where
  ok : ∀ j, j < k → EqOk k n (R j)
  ker : Ker k R
  sol : Sol k n R R0
  form : Form k c R
def lessAt (R : Nat → Eq2) (c m : Nat) (i : Nat) : Eq2 := if i < m ∧ i ≠ c then lessR (R i) (R c) ((R i).1.getD c 0) else R i
section
variable {k n c : Nat} {R R0 : Nat → Eq2}
theorem Inv.less (h : Inv k n c R R0) (hc : c < k) (hp : (R c).1.getD c 0 = 1) : Inv k n (c + 1) (lessAt R c k) R0 := by
  have cc : lessAt R c k c = R c := by rw [lessAt, if_neg (by omega)]
  have oj : ∀ j, j < k → j ≠ c → lessAt R c k j = lessR (R j) (R c) ((R j).1.getD c 0) := fun j hj e => by rw [lessAt, if_pos ⟨hj, e⟩]
  have ol := fun j hj => (h.ok j hj).l
  refine ⟨fun j hj => ?_, fun v hv hz => h.ker v hv fun j hj => ?_, fun D hD q => h.sol D hD fun j hj => ?_, fun j hj i hi => ?_⟩
  · by_cases e : j = c
    · rw [e, cc]; exact h.ok c hc
    · rw [oj j hj e]; exact (h.ok j hj).less (h.ok c hc) ((ol j hj).get c)
  · have zc := hz c hc
    rw [cc] at zc
    by_cases e : j = c
    · rw [e]; exact zc
    · have := hz j hj
      rw [oj j hj e, lessR, LV_add (ol j hj) ((ol c hc).mul ((ol j hj).get c)), LV_mul (ol c hc) ((ol j hj).get c) hv, zc, GF.gt_zero, Nat.xor_zero] at this
      exact this
  · have zc := q c hc
    rw [cc] at zc
    by_cases e : j = c
    · rw [e]; exact zc
    · have := q j hj
      rw [oj j hj e] at this
      exact less_back (h.ok j hj) (h.ok c hc) ((ol j hj).get c) hD this zc
  · have fl : ∀ i, i < k → (lessR (R j) (R c) ((R j).1.getD c 0)).1.getD i 0 = (R j).1.getD i 0 ^^^ GF.gt ((R j).1.getD c 0) ((R c).1.getD i 0) := fun i hi => by
      rw [lessR, xorB_getD (by rw [(ol j hj).len]; exact hi) (by rw [((ol c hc).mul ((ol j hj).get c)).len]; exact hi), mulB_getD (by rw [(ol c hc).len]; exact hi)]
    by_cases e : j = c
    · subst e
      rw [cc]
      by_cases e2 : i = j
      · subst e2; rw [hp, if_pos rfl]
      · exact h.form j hj i (by omega)
    · rw [oj j hj e, fl i (by omega)]
      by_cases e2 : i = c
      · subst e2
        rw [hp, GF.gt_one ((ol j hj).get i), Nat.xor_self, if_neg e]
      · rw [h.form c hc i (by omega), if_neg (Ne.symm e2), GF.gt_zero, Nat.xor_zero]
        exact h.form j hj i (by omega)
theorem Inv.done (h : Inv k n k R R0) : ∀ j, j < k → Tells k n (fun i => if i < k then (R i).2 else zeroB n) (R0 j) := by
  have hD : Dok n (fun i => if i < k then (R i).2 else zeroB n) := fun i => by
    by_cases e : i < k
    · simp only [if_pos e]; exact (h.ok i e).b
    · simp only [if_neg e]; exact ⟨zeroB_wf.1, zeroB_wf.2⟩
  refine h.sol _ hD fun j hj t ht => ?_
  unfold LV
  rw [SX_one (j := j) hj (fun i hi ne => by rw [h.form j hj i hi, if_neg (Ne.symm ne), GF.zero_gt]), h.form j hj j hj, if_pos rfl]
  simp only [if_pos hj]
  exact GF.one_gt ((h.ok j hj).b.get t)
end
end Law
namespace Law
open PySem L2 HC PyProof.Rows
section
variable {p n k : Nat} {ds : List Blk}
end
section
variable {p n k : Nat} {r : Row}
end
end Law
namespace Law
open PySem L2 HC PyProof.Rows
end Law
namespace Law
open PySem L2 HC PyProof.Rows
def potL (q : Addr) (t c : Int) : Cell := .lst [.ref q, .int t, .int c]
structure LPot (p q : Addr) (b : Nat) (M : Ms) : Prop where
  ne : p ≠ q
  d : ∃ t : Int, ∃ c : Nat, M p = some (potL q t c) ∧ c ≤ b
  o : ∃ own : List Int, M q = some (.lst (own.map Dv.int))
def Off (p q : Addr) (M M' : Ms) : Prop := ∀ a c, a ≠ p → a ≠ q → M a = some c → M' a = some c
theorem Off.refl (p q : Addr) (M : Ms) : Off p q M M := fun _ _ _ _ e => e
theorem Off.trans {p q : Addr} {M M1 M2 : Ms} (h : Off p q M M1) (k : Off p q M1 M2) : Off p q M M2 := fun a d h1 h2 e => k a d h1 h2 (h a d h1 h2 e)
theorem Off.p {p q : Addr} {M M1 : Ms} {c : Cell} (h : Off p q M M1) : Off p q M (mup M1 p c) := fun a d h1 h2 e => by rw [mup_ne h1]; exact h a d h1 h2 e
theorem Off.q {p q : Addr} {M M1 : Ms} {c : Cell} (h : Off p q M M1) : Off p q M (mup M1 q c) := fun a d h1 h2 e => by rw [mup_ne h2]; exact h a d h1 h2 e
theorem Off.sub {p q : Addr} {M M1 M2 : Ms} (h : Off p q M M1) (k : Sub M1 M2) : Off p q M M2 := fun a d h1 h2 e => k a d (h a d h1 h2 e)
theorem Off.put {p q r : Addr} {M M1 : Ms} {c : Cell} (h : Off p q M M1) (hr : M r = none) : Off p q M (mup M1 r c) := fun a d h1 h2 e => by rw [mup_ne (ne_of_new e hr)]; exact h a d h1 h2 e
theorem Off.at {p q r : Addr} {M M1 : Ms} {c : Cell} (h : Off p q M M1) (h1 : r ≠ p) (h2 : r ≠ q) (e : M r = some c) : M1 r = some c := h r c h1 h2 e
theorem LPot.sub {p q : Addr} {b : Nat} {M M1 : Ms} (h : LPot p q b M) (k : Sub M M1) : LPot p q b M1 := by
  obtain ⟨hne, ⟨t, c, hp, hc⟩, own, hq⟩ := h
  exact ⟨hne, ⟨t, c, k _ _ hp, hc⟩, own, k _ _ hq⟩
theorem LPot.up {p q : Addr} {b b' : Nat} {M : Ms} (h : LPot p q b M) (k : b ≤ b') : LPot p q b' M := by
  obtain ⟨hne, ⟨t, c, hp, hc⟩, own, hq⟩ := h
  exact ⟨hne, ⟨t, c, hp, by omega⟩, own, hq⟩
theorem LPot.nep {p q r : Addr} {b : Nat} {M : Ms} (h : LPot p q b M) (hr : M r = none) : r ≠ p := by
  obtain ⟨_, ⟨t, c, hp, _⟩, _⟩ := h
  exact (ne_of_new hp hr).symm
theorem LPot.neq {p q r : Addr} {b : Nat} {M : Ms} (h : LPot p q b M) (hr : M r = none) : r ≠ q := by
  obtain ⟨_, _, own, hq⟩ := h
  exact (ne_of_new hq hr).symm
theorem LPot.put {p q r : Addr} {b : Nat} {M : Ms} {c : Cell} (h : LPot p q b M) (h1 : r ≠ p) (h2 : r ≠ q) : LPot p q b (mup M r c) := by
  obtain ⟨hne, ⟨t, c', hp, hc⟩, own, hq⟩ := h
  exact ⟨hne, ⟨t, c', by rw [mup_ne h1.symm]; exact hp, hc⟩, own, by rw [mup_ne h2.symm]; exact hq⟩
end Law
namespace Law
open PySem L2 HC PyProof.Rows
structure Szs where
  par : Nat
  size : Nat
  rows : Nat
  width : Nat
  spares : Nat
def Szs.d (z : Szs) : Dv := .tup [dn z.par, dn z.size, dn z.rows, dn z.width, dn z.spares]
structure Szs.Ok (z : Szs) : Prop where
  p1 : 1 ≤ z.par
  p2 : z.par ≤ 2
  z1 : 1 ≤ z.size
  z2 : z.size ≤ 16
  r1 : 1 ≤ z.rows
  r2 : z.rows ≤ 24
  w1 : z.par + 1 ≤ z.width
  w2 : z.width ≤ 10
  sp : z.spares ≤ 9
def Szs.room (z : Szs) : Nat := z.rows * (z.width - z.par) * z.size
end Law
namespace Law
open PySem L2 HC PyProof.Rows
def setD (ds : List Disk) (d r : Nat) (o : Option Blk) : List Disk := match ds.getD d none with
  | none => ds
  | some bs => ds.set d (some (bs.set r o))
def cellD (ds : List Disk) (i r : Nat) : Option Blk := match ds.getD i none with
  | none => none
  | some bs => bs.getD r none
def lenD (ds : List Disk) (i : Nat) : Option Nat := (ds.getD i none).map List.length
theorem setCell_eq (s : Store) (d r : Nat) (o : Option Blk) : s.setCell d r o = ⟨s.head, setD s.disks d r o, s.journal⟩ := by
  unfold Store.setCell setD
  cases s.disks.getD d none <;> rfl
theorem cell_D (s : Store) (i r : Nat) : s.cell i r = cellD s.disks i r := rfl
variable {ds : List Disk} {d r i q : Nat} {o : Option Blk}
theorem getD_setA {α : Type} {xs : List α} {j k : Nat} {x y : α} : (xs.set j x).getD k y = if j = k ∧ j < xs.length then x else xs.getD k y := by
  rw [List.getD_eq_getElem?_getD, List.getElem?_set, List.getD_eq_getElem?_getD]
  by_cases e : j = k
  · subst e
    by_cases h : j < xs.length
    · rw [if_pos rfl, if_pos h, if_pos ⟨rfl, h⟩]; rfl
    · rw [if_pos rfl, if_neg h, if_neg (fun q => h q.2), List.getElem?_eq_none (by omega)]
  · rw [if_neg e, if_neg (fun q => e q.1)]
theorem some_lt {bs : List (Option Blk)} (h : ds.getD d none = some bs) : d < ds.length := by
  by_cases hd : d < ds.length
  · exact hd
  · rw [List.getD_eq_getElem?_getD, List.getElem?_eq_none (by omega)] at h
    cases h
theorem setD_len : (setD ds d r o).length = ds.length := by
  unfold setD
  cases ds.getD d none <;> simp
theorem setD_lenD : lenD (setD ds d r o) i = lenD ds i := by
  unfold lenD setD
  cases h : ds.getD d none with
  | none => rfl
  | some bs =>
    show ((ds.set d (some (bs.set r o))).getD i none).map List.length = _
    rw [getD_setA]
    by_cases e : d = i
    · subst e
      rw [if_pos ⟨rfl, some_lt h⟩, h]
      simp
    · rw [if_neg (fun q => e q.1)]
theorem setD_ne (h : i ≠ d ∨ q ≠ r) : cellD (setD ds d r o) i q = cellD ds i q := by
  unfold cellD setD
  cases e : ds.getD d none with
  | none => rfl
  | some bs =>
    show (match (ds.set d (some (bs.set r o))).getD i none with | none => none | some bs => bs.getD q none) = _
    rw [getD_setA]
    by_cases ei : d = i
    · subst ei
      rw [if_pos ⟨rfl, some_lt e⟩, e]
      show (bs.set r o).getD q none = bs.getD q none
      rw [getD_setA, if_neg]
      rintro ⟨a, b⟩
      rcases h with h | h
      · exact h rfl
      · exact h a.symm
    · rw [if_neg (fun q => ei q.1)]
theorem setD_eq {n : Nat} (h : lenD ds d = some n) (hr : r < n) : cellD (setD ds d r o) d r = o := by
  unfold lenD at h
  unfold cellD setD
  cases e : ds.getD d none with
  | none => rw [e] at h; cases h
  | some bs =>
    rw [e] at h
    have hl : bs.length = n := by cases h; rfl
    show (match (ds.set d (some (bs.set r o))).getD d none with | none => none | some bs => bs.getD r none) = _
    rw [getD_setA, if_pos ⟨rfl, some_lt e⟩]
    show (bs.set r o).getD r none = o
    rw [getD_setA, if_pos ⟨rfl, by omega⟩]
theorem setD_ok {z rows : Nat} (h : ∀ k ∈ ds, DiskOk k z rows) (ho : ∀ b, o = some b → BlkOk' b z) : ∀ k ∈ setD ds d r o, DiskOk k z rows := by
  unfold setD
  cases e : ds.getD d none with
  | none => exact h
  | some bs =>
    have hd := some_lt e
    intro k hk
    have hk : k ∈ ds.set d (some (bs.set r o)) := hk
    rcases List.mem_or_eq_of_mem_set hk with hk | rfl
    · exact h k hk
    · have hm : some bs ∈ ds := by
        rw [List.getD_eq_getElem?_getD, List.getElem?_eq_getElem hd] at e
        have e : ds[d] = some bs := e
        rw [← e]; exact List.getElem_mem hd
      intro cs ec
      cases ec
      obtain ⟨h1, h2⟩ := h _ hm bs rfl
      refine ⟨by rw [List.length_set]; exact h1, fun p hp b eb => ?_⟩
      rcases List.mem_or_eq_of_mem_set hp with hp | rfl
      · exact h2 p hp b eb
      · exact ho b eb
def blkF (ds : List Disk) (xs : List BN) : List Disk := xs.foldl (fun ds x => setD ds x.1 x.2.1 (some x.2.2)) ds
theorem fold_blk : ∀ (xs : List BN) (h : Head) (ds : List Disk) (j : List Note), (xs.map chgB).foldl applyC ⟨h, ds, j⟩ = ⟨h, blkF ds xs, j⟩
  | [], _, _, _ => rfl
  | x :: xs, h, ds, j => by
    rw [List.map_cons, List.foldl_cons]
    show (xs.map chgB).foldl applyC (Store.setCell ⟨h, ds, j⟩ x.1 x.2.1 (some x.2.2)) = _
    rw [setCell_eq, fold_blk xs]
    rfl
theorem blkF_len : ∀ (xs : List BN) (ds : List Disk), (blkF ds xs).length = ds.length
  | [], _ => rfl
  | x :: xs, ds => (blkF_len xs _).trans setD_len
theorem blkF_lenD : ∀ (xs : List BN) (ds : List Disk), lenD (blkF ds xs) i = lenD ds i
  | [], _ => rfl
  | x :: xs, ds => (blkF_lenD xs _).trans setD_lenD
theorem blkF_no : ∀ (xs : List BN) (ds : List Disk), (∀ x ∈ xs, i ≠ x.1 ∨ q ≠ x.2.1) → cellD (blkF ds xs) i q = cellD ds i q
  | [], _, _ => rfl
  | x :: xs, ds, h => (blkF_no xs _ fun y hy => h y (List.mem_cons_of_mem _ hy)).trans (setD_ne (h x List.mem_cons_self))
theorem blkF_yes {b : Blk} {n : Nat} (hq : q < n) : ∀ (xs : List BN) (ds : List Disk), lenD ds i = some n → (∃ x ∈ xs, x.1 = i ∧ x.2.1 = q) → (∀ x ∈ xs, x.1 = i → x.2.1 = q → x.2.2 = b) → cellD (blkF ds xs) i q = some b
  | [], _, _, ⟨x, hx, _⟩, _ => by cases hx
  | x :: xs, ds, hl, h, u => by
    by_cases hx : ∃ y ∈ xs, y.1 = i ∧ y.2.1 = q
    · exact blkF_yes hq xs _ (setD_lenD.trans hl) hx fun y hy => u y (List.mem_cons_of_mem _ hy)
    · obtain ⟨y, hy, e1, e2⟩ := h
      rcases List.mem_cons.mp hy with rfl | hy
      · have e3 := u y List.mem_cons_self e1 e2
        subst e1
        subst e2
        show cellD (blkF (setD ds y.1 y.2.1 (some y.2.2)) xs) y.1 y.2.1 = some b
        rw [blkF_no xs _ (fun w hw => by
          by_cases a : y.1 = w.1
          · right; exact fun c => hx ⟨w, hw, a.symm, c.symm⟩
          · exact .inl a), setD_eq hl hq, e3]
      · exact absurd ⟨y, hy, e1, e2⟩ hx
theorem blkF_ok {z rows : Nat} : ∀ (xs : List BN) (ds : List Disk), (∀ k ∈ ds, DiskOk k z rows) → (∀ x ∈ xs, BlkOk' x.2.2 z) → ∀ k ∈ blkF ds xs, DiskOk k z rows
  | [], _, h, _ => h
  | x :: xs, ds, h, hx => blkF_ok xs _ (setD_ok h fun b e => by cases e; exact hx x List.mem_cons_self) fun y hy => hx y (List.mem_cons_of_mem _ hy)
end Law
namespace Law
open PySem L2 HC PyProof.Rows
def cutB (z : Nat) (flat : Blk) (i : Nat) : Blk := (flat.drop (i * z)).take z
def dataR (z k : Nat) (flat : Blk) (r : Nat) : List Blk := (List.range k).map fun j => cutB z flat (r * k + j)
def rowF (p z k : Nat) (flat : Blk) (r : Nat) : List Blk := dataR z k flat r ++ parB p z (dataR z k flat r)
variable {z k : Nat} {flat : Blk}
theorem cutB_len {n i : Nat} (hf : flat.length = n * z) (hi : i < n) : (cutB z flat i).length = z := by
  unfold cutB
  rw [List.length_take, List.length_drop, hf]
  have : (i + 1) * z ≤ n * z := Nat.mul_le_mul_right _ hi
  rw [Nat.add_mul, Nat.one_mul] at this
  omega
end Law
namespace Law
open PySem L2 HC PyProof.Rows
structure Agree (s : Store) (fs : List (List Blk)) : Prop where
  len : fs.length = s.head.rows
  row : ∀ r, r < s.head.rows → ∃ as : List Blk, fs.getD r [] = as ++ parB s.head.par s.head.size as ∧ as.length + s.head.par = s.wide r ∧ WfR s.head.size as
  cell : ∀ r, r < s.head.rows → ∀ j, j < s.wide r → s.cell ((r + j) % s.wide r) r = none ∨ s.cell ((r + j) % s.wide r) r = some ((fs.getD r []).getD j [])
theorem Agree.rowLen {s : Store} {fs : List (List Blk)} (a : Agree s fs) (ok : s.Ok) {r : Nat} (hr : r < s.head.rows) : (fs.getD r []).length = s.wide r := by
  obtain ⟨as, e, l, _⟩ := a.row r hr
  rw [e, List.length_append, parB_len ok.head.par1 ok.head.par2, l]
theorem Agree.wf {s : Store} {fs : List (List Blk)} (a : Agree s fs) {r : Nat} (hr : r < s.head.rows) : WfR s.head.size (fs.getD r []) := by
  obtain ⟨as, e, l, w⟩ := a.row r hr
  rw [e]
  intro b hb
  rcases List.mem_append.mp hb with h | h
  · exact w b h
  · exact parB_wf w b h
theorem row_get {s : Store} {r j : Nat} (hj : j < s.wide r) : (s.row r).getD j none = s.cell ((r + j) % s.wide r) r := by
  unfold Store.row
  rw [List.getD_eq_getElem?_getD, List.getElem?_map, List.getElem?_range hj]
  rfl
theorem Agree.told {s : Store} {fs : List (List Blk)} (a : Agree s fs) (ok : s.Ok) {r : Nat} (hr : r < s.head.rows) (hn : noneN (s.row r) ≤ s.head.par) :
    dataTold s.head.par s.head.size (s.row r) ++ parB s.head.par s.head.size (dataTold s.head.par s.head.size (s.row r)) = fs.getD r [] := by
  obtain ⟨as, e, l, w⟩ := a.row r hr
  have p1 := ok.head.par1
  have p2 := ok.head.par2
  have wt := ok.wide_ten r
  have rl : (s.row r).length = s.wide r := Store.row_len
  have hk := noneN_known (s.row r)
  have hd : Hides s.head.par s.head.size as (s.row r) := by
    refine ⟨by rw [rl, ← l], fun i b hb => ?_⟩
    have hi : i < s.wide r := by
      by_cases q : i < s.wide r
      · exact q
      · rw [List.getD_eq_getElem?_getD, List.getElem?_eq_none (by omega)] at hb
        cases hb
    rw [row_get hi] at hb
    rcases a.cell r hr i hi with h | h
    · rw [h] at hb; cases hb
    · rw [h] at hb
      rw [← e]
      cases hb
      rfl
  rw [dataTold_code p1 p2 w (by omega) hd (by omega), e]
theorem Agree.less {s t : Store} {fs : List (List Blk)} (a : Agree s fs) (h1 : t.head.par = s.head.par) (h2 : t.head.size = s.head.size) (h3 : t.head.rows = s.head.rows) (h4 : ∀ r, t.wide r = s.wide r)
    (h5 : ∀ i r, t.cell i r = none ∨ t.cell i r = s.cell i r) : Agree t fs := by
  refine ⟨by rw [h3]; exact a.len, fun r hr => ?_, fun r hr j hj => ?_⟩
  · rw [h1, h2, h4]
    exact a.row r (h3 ▸ hr)
  · rw [h4] at hj ⊢
    rcases h5 ((r + j) % s.wide r) r with h | h
    · exact .inl h
    · rw [h]
      exact a.cell r (h3 ▸ hr) j hj
theorem ok_bad {s : Store} (ok : s.Ok) (hj : s.journal = []) (d r : Nat) : (applyC s (.bad d r)).Ok ∧ (applyC s (.bad d r)).journal = [] := by
  show (s.setCell d r none).Ok ∧ (s.setCell d r none).journal = []
  rw [setCell_eq]
  refine ⟨⟨?_, setD_ok ok.disks (fun b e => by cases e), fun i n h => ?_⟩, hj⟩
  · show s.head.Ok (setD s.disks d r none).length
    rw [setD_len]; exact ok.head
  · have h : s.journal[i]? = some n := h
    rw [hj] at h
    simp at h
theorem agree_bad {s : Store} {fs : List (List Blk)} (a : Agree s fs) (d r : Nat) : Agree (applyC s (.bad d r)) fs := by
  show Agree (s.setCell d r none) fs
  rw [setCell_eq]
  refine a.less rfl rfl rfl (fun _ => rfl) fun i q => ?_
  show cellD (setD s.disks d r none) i q = none ∨ cellD (setD s.disks d r none) i q = cellD s.disks i q
  by_cases h : i = d ∧ q = r
  · obtain ⟨rfl, rfl⟩ := h
    cases e : lenD s.disks i with
    | none =>
      right
      have e2 : s.disks.getD i none = none := by
        unfold lenD at e
        cases e3 : s.disks.getD i none with
        | none => rfl
        | some bs => rw [e3] at e; cases e
      unfold setD
      rw [e2]
    | some n =>
      by_cases hq : q < n
      · exact .inl (setD_eq e hq)
      · left
        have e2 := setD_lenD (ds := s.disks) (d := i) (r := q) (o := none) (i := i)
        rw [e] at e2
        unfold cellD
        unfold lenD at e2
        cases e3 : (setD s.disks i q none).getD i none with
        | none => rfl
        | some bs =>
          rw [e3] at e2
          have e2 : some bs.length = some n := e2
          cases e2
          show bs.getD q none = none
          rw [List.getD_eq_getElem?_getD, List.getElem?_eq_none (by omega)]
          rfl
  · exact .inr (setD_ne (by omega))
theorem ok_set {s : Store} (ok : s.Ok) (hj : s.journal = []) {h : Head} (hh : h.Ok s.disks.length) (h2 : h.size = s.head.size) (h3 : h.rows = s.head.rows) (d : Nat) {k : Disk} (hk : DiskOk k s.head.size s.head.rows) : (⟨h, s.disks.set d k, s.journal⟩ : Store).Ok := by
  refine ⟨by show h.Ok (s.disks.set d k).length; rw [List.length_set]; exact hh, fun x hx => ?_, fun i n e => ?_⟩
  · show DiskOk x h.size h.rows
    rw [h2, h3]
    rcases List.mem_or_eq_of_mem_set hx with hx | rfl
    · exact ok.disks x hx
    · exact hk
  · have e : s.journal[i]? = some n := e
    rw [hj] at e
    simp at e
theorem cell_set {ds : List Disk} {d i q : Nat} {k : Disk} (hk : ∀ bs, k = some bs → ∀ o ∈ bs, o = none) : cellD (ds.set d k) i q = none ∨ cellD (ds.set d k) i q = cellD ds i q := by
  unfold cellD
  rw [getD_setA]
  by_cases e : d = i ∧ d < ds.length
  · rw [if_pos e]
    left
    cases k with
    | none => rfl
    | some bs =>
      show bs.getD q none = none
      rw [List.getD_eq_getElem?_getD]
      cases e2 : bs[q]? with
      | none => rfl
      | some o => exact hk bs rfl o (List.mem_of_getElem? e2)
  · rw [if_neg e]
    exact .inr rfl
theorem ok_lose {s : Store} (ok : s.Ok) (hj : s.journal = []) (d : Nat) : (applyC s (.lose d)).Ok := ok_set ok hj ok.head rfl rfl d (fun _ e => by cases e)
theorem agree_lose {s : Store} {fs : List (List Blk)} (a : Agree s fs) (d : Nat) : Agree (applyC s (.lose d)) fs :=
  a.less rfl rfl rfl (fun _ => rfl) fun i q => cell_set (ds := s.disks) (d := d) (k := none) fun _ e => by cases e
theorem less_ok {h : Head} {n : Nat} (ok : h.Ok n) : (lessH h).Ok n := ⟨ok.par1, ok.par2, ok.size1, ok.size2, ok.rows1, ok.rows2, ok.width1, ok.width2, ok.many, by
  have := ok.sp
  show h.spares - 1 ≤ 1000000
  omega⟩
theorem fresh_disk {h : Head} : DiskOk (freshK h) h.size h.rows := fun bs e => by
  unfold freshK at e
  cases e
  refine ⟨by simp, fun o ho b eb => ?_⟩
  rw [(List.mem_replicate.mp ho).2] at eb
  cases eb
theorem ok_spare {s : Store} (ok : s.Ok) (hj : s.journal = []) (d : Nat) : (applyC s (.spare d)).Ok := ok_set ok hj (less_ok ok.head) rfl rfl d fresh_disk
theorem agree_spare {s : Store} {fs : List (List Blk)} (a : Agree s fs) (d : Nat) : Agree (applyC s (.spare d)) fs :=
  a.less rfl rfl rfl (fun _ => rfl) fun i q => cell_set (ds := s.disks) (d := d) (k := freshK s.head) fun bs e o ho => by
    unfold freshK at e
    cases e
    exact (List.mem_replicate.mp ho).2
end Law
namespace Law
open PySem L2 HC PyProof.Rows
theorem deed_fold (s : Store) (bs : List BN) (w m : Nat) : (deedC bs w m).foldl applyC s = ⟨⟨s.head.par, s.head.size, s.head.rows, w, m, s.head.spares⟩, blkF s.disks bs, []⟩ := by
  unfold deedC
  have e : bs.map (fun x => Chg.note (noteB' x)) = (bs.map noteB').map Chg.note := by rw [List.map_map]; rfl
  rw [List.foldl_append, List.foldl_append, e, List.foldl_append, fold_notes]
  show [Chg.head w m, .clear].foldl applyC ((bs.map chgB).foldl applyC ⟨s.head, s.disks, s.journal ++ bs.map noteB' ++ [.fin bs.length w m]⟩) = _
  rw [fold_blk]
  rfl
def Szs.s0 (z : Szs) : Store := newS z.par z.size z.rows z.width z.spares
def Szs.k (z : Szs) : Nat := z.width - z.par
variable {z : Szs} {flat : Blk}
def Szs.fs (z : Szs) (flat : Blk) : List (List Blk) := (List.range z.rows).map fun r => rowF z.par z.size z.k flat r
def Szs.s1 (z : Szs) (flat : Blk) : Store := ⟨z.s0.head, blkF z.s0.disks (z.s0.notesW 0 flat), []⟩
theorem mod_inj {w r p q : Nat} (hp : p < w) (hq : q < w) (e : (r + p) % w = (r + q) % w) : p = q := by
  have h1 := Nat.div_add_mod (r + p) w
  have h2 := Nat.div_add_mod (r + q) w
  rw [e] at h1
  have : w * ((r + p) / w) = w * ((r + q) / w) ∨ w * ((r + p) / w) + w ≤ w * ((r + q) / w) ∨ w * ((r + q) / w) + w ≤ w * ((r + p) / w) := by
    rcases Nat.lt_trichotomy ((r + p) / w) ((r + q) / w) with h | h | h
    · right; left
      have := Nat.mul_le_mul_left w h
      rw [Nat.mul_succ] at this
      exact this
    · left; rw [h]
    · right; right
      have := Nat.mul_le_mul_left w h
      rw [Nat.mul_succ] at this
      exact this
  omega
end Law
namespace Law
open PySem L2 HC PyProof.Rows
theorem cvs_append : ∀ {as bs : List Chg} {s : Store}, CVs s as → CVs (as.foldl applyC s) bs → CVs s (as ++ bs)
  | [], _, _, _, h => h
  | a :: as, bs, s, h, k => ⟨h.1, cvs_append h.2 k⟩
theorem cvs_deed {s : Store} {bs : List BN} {w m : Nat} (hb : BOk s.disks.length s.head.rows bs) : CVs s (deedC bs w m) := by
  unfold deedC
  have e : bs.map (fun x => Chg.note (noteB' x)) = (bs.map noteB').map Chg.note := by rw [List.map_map]; rfl
  rw [e]
  refine cvs_append (cvs_snoc (cvs_notes _ s fun x hx => ?_) (show noteLen (.fin _ _ _) ≤ 16 from Nat.zero_le _)) ?_
  · obtain ⟨y, hy, rfl⟩ := List.mem_map.mp hx
    exact (hb y hy).2.2
  · rw [List.foldl_append, fold_notes]
    exact cvs_blocks hb fun t => ⟨trivial, trivial, trivial⟩
variable {z : Szs} {flat : Blk}
theorem flatMap_le {α β : Type} {f : α → List β} {c : Nat} : ∀ {xs : List α}, (∀ x ∈ xs, (f x).length ≤ c) → (xs.flatMap f).length ≤ xs.length * c
  | [], _ => by simp
  | x :: xs, h => by
    have := flatMap_le (xs := xs) fun y hy => h y (List.mem_cons_of_mem _ hy)
    have := h x List.mem_cons_self
    rw [List.flatMap_cons, List.length_append, List.length_cons, Nat.add_mul, Nat.one_mul]
    omega
end Law
namespace Law
open PySem L2 HC PyProof.Rows
end Law
namespace Law
open PySem L2 HC PyProof.Rows
structure Whole (s : Store) (fs : List (List Blk)) : Prop where
  agree : Agree s fs
  full : ∀ r, r < s.head.rows → ∀ j, j < s.wide r → s.cell ((r + j) % s.wide r) r = some ((fs.getD r []).getD j [])
variable {z : Szs} {flat : Blk}
def padB (z : Nat) (flat : Blk) (b : Nat) : Blk := cutB z flat b ++ List.replicate (z - (cutB z flat b).length) 0
theorem cutB_le (z : Nat) (flat : Blk) (b : Nat) : (cutB z flat b).length ≤ z := by
  unfold cutB
  rw [List.length_take]
  omega
theorem padB_wf {z : Nat} {flat : Blk} (hb : ∀ y ∈ flat, y < 256) (b : Nat) : BlkOk' (padB z flat b) z := by
  have := cutB_le z flat b
  refine ⟨by unfold padB; rw [List.length_append, List.length_replicate]; omega, fun x hx => ?_⟩
  rcases List.mem_append.mp hx with h | h
  · exact hb x (List.mem_of_mem_drop (List.mem_of_mem_take h))
  · rw [(List.mem_replicate.mp h).2]; decide
def dataG (z k : Nat) (flat : Blk) (r m : Nat) : List Blk := (List.range m).map fun j => padB z flat (r * k + j)
def Szs.rowG (z : Szs) (flat : Blk) (r : Nat) : List Blk := dataG z.size (z.k + 1) flat r (z.k + 1) ++ parB z.par z.size (dataG z.size (z.k + 1) flat r (z.k + 1))
theorem dataG_len {z k : Nat} {flat : Blk} (r m : Nat) : (dataG z k flat r m).length = m := by simp [dataG]
theorem dataG_wf {z k : Nat} {flat : Blk} (hb : ∀ y ∈ flat, y < 256) (r m : Nat) : WfR z (dataG z k flat r m) := fun b h => by
  obtain ⟨j, _, rfl⟩ := List.mem_map.mp h
  exact padB_wf hb _
theorem rowG_len (ok : z.Ok) (r : Nat) : (z.rowG flat r).length = z.width + 1 := by
  have w1 := ok.w1
  have ek : z.k = z.width - z.par := rfl
  unfold Szs.rowG
  rw [List.length_append, parB_len ok.p1 ok.p2, dataG_len]
  omega
theorem rowG_wf (hb : ∀ y ∈ flat, y < 256) (r : Nat) : WfR z.size (z.rowG flat r) := fun b h => by
  have dw := dataG_wf (z := z.size) (k := z.k + 1) hb r (z.k + 1)
  rcases List.mem_append.mp h with h | h
  · exact dw b h
  · exact parB_wf dw b h
def Szs.fsG (z : Szs) (flat : Blk) (m : Nat) : List (List Blk) := (List.range z.rows).map fun r => if r < m then z.rowG flat r else rowF z.par z.size z.k flat r
theorem fsG_get {m r : Nat} (hr : r < z.rows) : (z.fsG flat m).getD r [] = if r < m then z.rowG flat r else rowF z.par z.size z.k flat r := by
  unfold Szs.fsG
  rw [List.getD_eq_getElem?_getD, List.getElem?_map, List.getElem?_range hr]; rfl
theorem fsG_set {m : Nat} (hm : m < z.rows) : (z.fsG flat m).set m (z.rowG flat m) = z.fsG flat (m + 1) := by
  refine List.ext_getElem (by simp [Szs.fsG]) fun i h1 h2 => ?_
  rw [List.getElem_set]
  simp only [Szs.fsG, List.getElem_map, List.getElem_range]
  by_cases e : m = i
  · subst e
    rw [if_pos rfl, if_pos (by omega)]
  · rw [if_neg e]
    by_cases h : i < m
    · rw [if_pos h, if_pos (by omega)]
    · rw [if_neg h, if_neg (by omega)]
def Szs.blkG (z : Szs) (flat : Blk) (r n : Nat) : List BN := (List.range n).map fun j => ((r + j) % (z.width + 1), r, (z.rowG flat r).getD j [])
def Szs.notesG (z : Szs) (flat : Blk) (m : Nat) : List BN := (List.range m).flatMap fun r => z.blkG flat r (z.width + 1)
def Szs.s2 (z : Szs) (flat : Blk) (m : Nat) : Store := ⟨⟨z.par, z.size, z.rows, z.width, m, z.spares - 1⟩, blkF ((z.s1 flat).disks ++ [freshK z.s0.head]) (z.notesG flat m), []⟩
end Law
namespace Law
open PySem L2 HC PyProof.Rows
variable {z : Szs} {flat : Blk}
theorem setD_getD {ds : List Disk} {d r i : Nat} {o : Option Blk} (h : i ≠ d) : (setD ds d r o).getD i none = ds.getD i none := by
  unfold setD
  cases ds.getD d none with
  | none => rfl
  | some bs =>
    show (ds.set d _).getD i none = _
    rw [getD_setA, if_neg (fun q => h q.1.symm)]
theorem set_getD {ds : List Disk} {d i : Nat} {k : Disk} (h : i ≠ d) : (ds.set d k).getD i none = ds.getD i none := by
  rw [getD_setA, if_neg (fun q => h q.1.symm)]
structure Few (s t : Store) (T : List Nat) : Prop where
  ok : t.Ok
  j : t.journal = []
  ag : ∀ fs, Agree s fs → Agree t fs
  rows : t.head.rows = s.head.rows
  par : t.head.par = s.head.par
  size : t.head.size = s.head.size
  wide : ∀ r, t.wide r = s.wide r
  len : t.disks.length = s.disks.length
  rest : ∀ x, x ∉ T → t.disks.getD x none = s.disks.getD x none
theorem Few.refl {s : Store} (ok : s.Ok) (hj : s.journal = []) : Few s s [] := ⟨ok, hj, fun _ h => h, rfl, rfl, rfl, fun _ => rfl, rfl, fun _ _ => rfl⟩
theorem Few.more {s t : Store} {T : List Nat} (h : Few s t T) (d : Nat) : Few s t (d :: T) := ⟨h.ok, h.j, h.ag, h.rows, h.par, h.size, h.wide, h.len, fun x hx => h.rest x fun q => hx (List.mem_cons_of_mem _ q)⟩
theorem Few.lose {s t : Store} {T : List Nat} (h : Few s t T) {d : Nat} (hd : d ∈ T) : Few s (applyC t (.lose d)) T :=
  ⟨ok_lose h.ok h.j d, h.j, fun fs a => agree_lose (h.ag fs a) d, h.rows, h.par, h.size, h.wide, by show (t.disks.set d none).length = _; rw [List.length_set]; exact h.len,
    fun x hx => by show (t.disks.set d none).getD x none = _; rw [set_getD (show x ≠ d from fun e => hx (by rw [e]; exact hd))]; exact h.rest x hx⟩
theorem Few.spare {s t : Store} {T : List Nat} (h : Few s t T) {d : Nat} (hd : d ∈ T) : Few s (applyC t (.spare d)) T :=
  ⟨ok_spare h.ok h.j d, h.j, fun fs a => agree_spare (h.ag fs a) d, h.rows, h.par, h.size, h.wide, by show (t.disks.set d _).length = _; rw [List.length_set]; exact h.len,
    fun x hx => by show (t.disks.set d _).getD x none = _; rw [set_getD (show x ≠ d from fun e => hx (by rw [e]; exact hd))]; exact h.rest x hx⟩
theorem Few.bad {s t : Store} {T : List Nat} (h : Few s t T) {d : Nat} (r : Nat) (hd : d ∈ T) : Few s (applyC t (.bad d r)) T := by
  have e : applyC t (.bad d r) = ⟨t.head, setD t.disks d r none, t.journal⟩ := setCell_eq t d r none
  have h1 := ok_bad h.ok h.j d r
  have h2 := fun fs a => agree_bad (h.ag fs a) d r
  rw [e] at h1 h2 ⊢
  refine ⟨h1.1, h1.2, h2, h.rows, h.par, h.size, h.wide, setD_len.trans h.len, fun x hx => ?_⟩
  show (setD t.disks d r none).getD x none = _
  rw [setD_getD (show x ≠ d from fun e => hx (by rw [e]; exact hd))]
  exact h.rest x hx
end Law
namespace Law
open PySem L2 HC PyProof.Rows
end Law
namespace Law
open PySem L2 HC PyProof.Rows
theorem setD_or {ds : List Disk} {d r i q : Nat} {o : Option Blk} : cellD (setD ds d r o) i q = cellD ds i q ∨ (i = d ∧ q = r ∧ cellD (setD ds d r o) i q = o) := by
  by_cases h : i = d ∧ q = r
  · obtain ⟨rfl, rfl⟩ := h
    cases e : lenD ds i with
    | none =>
      left
      have e2 : ds.getD i none = none := by
        unfold lenD at e
        cases e3 : ds.getD i none with
        | none => rfl
        | some bs => rw [e3] at e; cases e
      unfold setD
      rw [e2]
    | some n =>
      by_cases hq : q < n
      · exact .inr ⟨rfl, rfl, setD_eq e hq⟩
      · left
        have e1 := setD_lenD (ds := ds) (d := i) (r := q) (o := o) (i := i)
        rw [e] at e1
        have big : ∀ D : List Disk, lenD D i = some n → cellD D i q = none := fun D h => by
          unfold lenD at h
          unfold cellD
          cases e3 : D.getD i none with
          | none => rfl
          | some bs =>
            rw [e3] at h
            have h : some bs.length = some n := h
            cases h
            show bs.getD q none = none
            rw [List.getD_eq_getElem?_getD, List.getElem?_eq_none (by omega)]
            rfl
        rw [big _ e1, big _ e]
  · exact .inl (setD_ne (by omega))
theorem blkF_or {i q : Nat} : ∀ (xs : List BN) (ds : List Disk), cellD (blkF ds xs) i q = cellD ds i q ∨ ∃ x ∈ xs, x.1 = i ∧ x.2.1 = q ∧ cellD (blkF ds xs) i q = some x.2.2
  | [], _ => .inl rfl
  | x :: xs, ds => by
    rcases blkF_or (i := i) (q := q) xs (setD ds x.1 x.2.1 (some x.2.2)) with h | ⟨y, hy, e1, e2, h⟩
    · rcases setD_or (ds := ds) (d := x.1) (r := x.2.1) (i := i) (q := q) (o := some x.2.2) with h2 | ⟨e1, e2, h2⟩
      · exact .inl (h.trans h2)
      · exact .inr ⟨x, List.mem_cons_self, e1.symm, e2.symm, h.trans h2⟩
    · exact .inr ⟨y, List.mem_cons_of_mem _ hy, e1, e2, h⟩
def fillS (t : Store) (xs : List BN) : Store := ⟨t.head, blkF t.disks xs, []⟩
def Right (t : Store) (fs : List (List Blk)) (xs : List BN) : Prop := ∀ x ∈ xs, ∃ r, r < t.head.rows ∧ ∃ p, p < t.wide r ∧ x = ((r + p) % t.wide r, r, (fs.getD r []).getD p [])
variable {t : Store} {fs : List (List Blk)} {xs : List BN}
theorem fill_cell (ag : Agree t fs) (hx : Right t fs xs) {r j : Nat} (hr : r < t.head.rows) (hj : j < t.wide r) : (fillS t xs).cell ((r + j) % t.wide r) r = t.cell ((r + j) % t.wide r) r ∨ (fillS t xs).cell ((r + j) % t.wide r) r = some ((fs.getD r []).getD j []) := by
  rcases blkF_or (i := (r + j) % t.wide r) (q := r) xs t.disks with h | ⟨x, hx', e1, e2, h⟩
  · exact .inl h
  · obtain ⟨r', hr', p, hp, rfl⟩ := hx x hx'
    have e2 : r' = r := e2
    subst e2
    have e1 := mod_inj hp hj e1
    subst e1
    exact .inr h
theorem fill_ok (ok : t.Ok) (ag : Agree t fs) (hx : Right t fs xs) : (fillS t xs).Ok := by
  refine ⟨?_, blkF_ok _ _ ok.disks fun x hx' => ?_, fun i n h => by simp [fillS] at h⟩
  · show t.head.Ok (blkF t.disks xs).length
    rw [blkF_len]; exact ok.head
  · obtain ⟨r, hr, p, hp, rfl⟩ := hx x hx'
    exact ag.wf hr _ (getD_mem (by rw [ag.rowLen ok hr]; exact hp))
theorem fill_agree (ag : Agree t fs) (hx : Right t fs xs) : Agree (fillS t xs) fs := by
  refine ⟨ag.len, ag.row, fun r hr j hj => ?_⟩
  rcases fill_cell ag hx hr hj with h | h
  · rcases ag.cell r hr j hj with h2 | h2
    · exact .inl (h.trans h2)
    · exact .inr (h.trans h2)
  · exact .inr h
theorem noneN_row (s : Store) (r : Nat) : noneN (s.row r) = ((List.range (s.wide r)).filter fun j => (s.cell ((r + j) % s.wide r) r).isNone).length := by
  unfold noneN Store.row
  rw [List.filter_map, List.length_map]
  rfl
theorem filter_le {α : Type} {p q : α → Bool} : ∀ {xs : List α}, (∀ x ∈ xs, p x = true → q x = true) → (xs.filter p).length ≤ (xs.filter q).length
  | [], _ => Nat.le_refl _
  | x :: xs, h => by
    have ih := filter_le (p := p) (q := q) (xs := xs) fun y hy => h y (List.mem_cons_of_mem _ hy)
    have hx := h x List.mem_cons_self
    rw [List.filter_cons, List.filter_cons]
    cases hp : p x with
    | false =>
      cases q x with
      | false => simpa using ih
      | true => simp; omega
    | true =>
      rw [hx hp]
      simpa using ih
end Law
namespace Law
open PySem L2 HC PyProof.Rows
variable {t : Store} {fs : List (List Blk)} {xs : List BN}
def TellsF (s : Store) (fs : List (List Blk)) (flat : Blk) : Prop := ∀ b, b < s.kept → (fs.getD (s.spotN b).1 []).getD (s.spotN b).2 [] = cutB s.head.size flat b
variable {z : Szs} {flat : Blk}
theorem getD_data {f : Nat → Blk} {k j : Nat} {ps : List Blk} (h : j < k) : ((List.range k).map f ++ ps).getD j [] = f j := by
  rw [List.getD_eq_getElem?_getD, List.getElem?_append_left (by simpa using h), List.getElem?_map, List.getElem?_range h]
  rfl
theorem tells_rowF {b : Nat} (hb : b < z.rows * z.k) : (rowF z.par z.size z.k flat (b / z.k)).getD (b % z.k) [] = cutB z.size flat b := by
  have k0 : 0 < z.k := Nat.pos_of_ne_zero fun e => by rw [e, Nat.mul_zero] at hb; omega
  unfold rowF dataR
  rw [getD_data (Nat.mod_lt _ k0)]
  congr 1
  have := Nat.div_add_mod b z.k
  rw [Nat.mul_comm] at this
  exact this
theorem s2_tells (ok : z.Ok) (hf : flat.length = z.room) {m : Nat} : TellsF (z.s2 flat m) (z.fsG flat m) flat := fun b hb => by
  have hb : b < z.rows * z.k := hb
  have w1 := ok.w1
  have ek : z.k = z.width - z.par := rfl
  have ek2 : z.width + 1 - z.par = z.k + 1 := by omega
  unfold Store.spotN
  show (((z.fsG flat m).getD (if b / (z.width + 1 - z.par) < m then lay (z.width + 1 - z.par) b else lay (z.width - z.par) b).1 []).getD (if b / (z.width + 1 - z.par) < m then lay (z.width + 1 - z.par) b else lay (z.width - z.par) b).2 []) = cutB z.size flat b
  rw [ek2]
  have k0 : 0 < z.k := by omega
  have rk : b / z.k < z.rows := Nat.div_lt_of_lt_mul (by rw [Nat.mul_comm]; exact hb)
  have le : b / (z.k + 1) ≤ b / z.k := Nat.div_le_div_left (by omega) k0
  by_cases h : b / (z.k + 1) < m
  · rw [if_pos h]
    show ((z.fsG flat m).getD (b / (z.k + 1)) []).getD (b % (z.k + 1)) [] = _
    rw [fsG_get (by omega), if_pos h]
    unfold Szs.rowG dataG
    rw [getD_data (Nat.mod_lt _ (by omega))]
    have e : b / (z.k + 1) * (z.k + 1) + b % (z.k + 1) = b := by
      have := Nat.div_add_mod b (z.k + 1)
      rw [Nat.mul_comm] at this
      exact this
    rw [e]
    unfold padB
    have cl : (cutB z.size flat b).length = z.size := cutB_len (n := z.rows * z.k) hf hb
    rw [cl, Nat.sub_self]
    simp
  · rw [if_neg h]
    show ((z.fsG flat m).getD (b / z.k) []).getD (b % z.k) [] = _
    rw [fsG_get rk, if_neg (by omega)]
    exact tells_rowF hb
end Law
namespace Law
open PySem L2 HC PyProof.Rows
end Law
namespace Law
open PySem L2 HC PyProof.Rows
end Law
namespace Law
open PySem L2 HC PyProof.Rows
theorem Off.free {p q r : Addr} {M M1 : Ms} (h : Off p q M M1) (h1 : r ≠ p) (h2 : r ≠ q) (e : M1 r = none) : M r = none := by
  cases hc : M r with
  | none => rfl
  | some c =>
    have := h r c h1 h2 hc
    rw [e] at this
    cases this
end Law
namespace Law
open PySem L2 HC PyProof.Rows
theorem ok_spoil {s : Store} (ok : s.Ok) (hj : s.journal = []) (d r : Nat) {b : Blk} (hb : BlkOk' b s.head.size) : (applyC s (.spoil d r b)).Ok ∧ (applyC s (.spoil d r b)).journal = [] ∧ (applyC s (.spoil d r b)).head = s.head := by
  show (s.setCell d r (some b)).Ok ∧ (s.setCell d r (some b)).journal = [] ∧ (s.setCell d r (some b)).head = s.head
  rw [setCell_eq]
  refine ⟨⟨?_, setD_ok ok.disks (fun c e => by cases e; exact hb), fun i n h => ?_⟩, hj, rfl⟩
  · show s.head.Ok (setD s.disks d r (some b)).length
    rw [setD_len]; exact ok.head
  · have h : s.journal[i]? = some n := h
    rw [hj] at h
    simp at h
end Law
namespace Law
open PySem L2 HC PyProof.Rows
theorem deed_len (bs : List BN) (w m : Nat) : (deedC bs w m).length = 2 * bs.length + 3 := by
  unfold deedC
  simp
  omega
theorem write_cvs {s : Store} (ok : s.Ok) {a : Nat} {told : Blk} (t0 : told ≠ []) (hroom : a + told.length ≤ s.kept * s.head.size) (hb : ∀ y ∈ told, y < 256)
    (hk : ∀ x ∈ s.grp a told (nBl s.head.size a told.length), s.wide x.1 - s.head.par ≤ (known (s.row x.1)).length) : CVs s (s.wrote a told) ∧ (s.wrote a told).length ≤ 500 := by
  have z1 := ok.head.size1
  have r2 := ok.head.rows2
  have tp : 0 < told.length := List.length_pos_iff.mpr t0
  unfold Store.wrote Store.notesW
  rw [if_neg t0]
  have gok := grp_ok ok a told (nBl s.head.size a told.length)
  have gpc := grp_pcs ok (a := a) hb (nBl s.head.size a told.length) (by
    unfold nBl
    have e1 := Nat.div_add_mod (a + told.length - 1) s.head.size
    have e2 : (a + told.length - 1) / s.head.size < s.kept := (Nat.div_lt_iff_lt_mul (by omega)).mpr (by omega)
    have e3 : a / s.head.size ≤ (a + told.length - 1) / s.head.size := Nat.div_le_div_right (by omega)
    omega)
  generalize s.grp a told (nBl s.head.size a told.length) = g at gok gpc hk
  have grow : g.length ≤ 24 := by
    have := asc_len gok.up (n := s.head.rows) fun q hq => (by
      obtain ⟨x, hx, rfl⟩ := List.mem_map.mp hq
      exact (gpc x hx).1)
    rw [List.length_map] at this
    omega
  have hlen : (g.flatMap fun x => s.rowN x.1 x.2).length ≤ g.length * 10 := flatMap_le fun x hx => by
    have q6 := rowN_len s (gok.pl x hx) (fun y hy => ((gpc x hx).2 y hy).1) (ok.wide_pos x.1)
    have q7 := ok.wide_ten x.1
    omega
  refine ⟨cvs_deed fun b hbm => ?_, by rw [deed_len]; omega⟩
  obtain ⟨x, hx, hy⟩ := List.mem_flatMap.mp hbm
  exact rowN_blk ok (gpc x hx).1 (hk x hx) (gpc x hx).2 b hy
end Law
namespace Law
open PySem L2 HC PyProof.Rows
structure SameH (h h' : Head) : Prop where
  par : h'.par = h.par
  size : h'.size = h.size
  rows : h'.rows = h.rows
  width : h'.width = h.width
  moved : h'.moved = h.moved
theorem SameH.refl (h : Head) : SameH h h := ⟨rfl, rfl, rfl, rfl, rfl⟩
theorem SameH.trans {a b c : Head} (x : SameH a b) (y : SameH b c) : SameH a c := ⟨y.par.trans x.par, y.size.trans x.size, y.rows.trans x.rows, y.width.trans x.width, y.moved.trans x.moved⟩
structure Kept (s t : Store) : Prop where
  ok : t.Ok
  j : t.journal = s.journal
  h : SameH s.head t.head
  d : t.disks.length = s.disks.length
theorem Kept.refl {s : Store} (ok : s.Ok) : Kept s s := ⟨ok, rfl, .refl _, rfl⟩
theorem Kept.trans {a b c : Store} (x : Kept a b) (y : Kept b c) : Kept a c := ⟨y.ok, y.j.trans x.j, x.h.trans y.h, y.d.trans x.d⟩
structure NOk (s : Store) (xs : List BN) : Prop where
  n : ∀ x ∈ xs, x.1 < s.disks.length ∧ x.2.1 < s.head.rows ∧ BlkOk' x.2.2 s.head.size
theorem rowN_wf {s : Store} (ok : s.Ok) {row : Nat} {l : Pcs} (hr : row < s.head.rows) (hk : s.wide row - s.head.par ≤ (known (s.row row)).length) (hl : ∀ y ∈ l, y.1 < s.wide row - s.head.par ∧ y.2.1 + y.2.2.length ≤ s.head.size ∧ ∀ w ∈ y.2.2, w < 256) : NOk s (s.rowN row l) := ⟨fun x hx => by
  have w0 := ok.wide_pos row
  have p1 := ok.head.par1
  have p2 := ok.head.par2
  obtain ⟨h1, h2⟩ := newD_ok ok hk hl
  have fl : (s.fullN row l).length = s.wide row := by
    unfold Store.fullN
    rw [List.length_append, parB_len p1 p2, h2]
    omega
  have fw : WfR s.head.size (s.fullN row l) := fun b hb => by
    rcases List.mem_append.mp hb with q | q
    · exact h1 b q
    · exact parB_wf h1 b q
  unfold Store.rowN at hx
  obtain ⟨p, hp, e⟩ := List.mem_filterMap.mp hx
  have pw : p < s.wide row := by
    rcases List.mem_append.mp hp with q | q
    · obtain ⟨y, hy, rfl⟩ := List.mem_map.mp q
      have := (hl y hy).1
      omega
    · obtain ⟨i, hi, rfl⟩ := List.mem_map.mp q
      have := List.mem_range.mp hi
      omega
  unfold noteAt at e
  split at e
  · cases e
    exact ⟨Nat.lt_of_lt_of_le (Nat.mod_lt _ (by omega)) (ok.wide_le row), hr, fw _ (getD_mem (by omega))⟩
  · cases e⟩
theorem write_notes {s : Store} (ok : s.Ok) {a : Nat} {told : Blk} (t0 : told ≠ []) (hroom : a + told.length ≤ s.kept * s.head.size) (hb : ∀ y ∈ told, y < 256)
    (hk : ∀ x ∈ s.grp a told (nBl s.head.size a told.length), s.wide x.1 - s.head.par ≤ (known (s.row x.1)).length) : NOk s (s.notesW a told) := ⟨fun b hbm => by
  have z1 := ok.head.size1
  have tp : 0 < told.length := List.length_pos_iff.mpr t0
  unfold Store.notesW at hbm
  have gpc := grp_pcs ok (a := a) hb (nBl s.head.size a told.length) (by
    unfold nBl
    have e1 := Nat.div_add_mod (a + told.length - 1) s.head.size
    have e2 : (a + told.length - 1) / s.head.size < s.kept := (Nat.div_lt_iff_lt_mul (by omega)).mpr (by omega)
    have e3 : a / s.head.size ≤ (a + told.length - 1) / s.head.size := Nat.div_le_div_right (by omega)
    omega)
  obtain ⟨x, hx, hy⟩ := List.mem_flatMap.mp hbm
  exact (rowN_wf ok (gpc x hx).1 (hk x hx) (gpc x hx).2).n b hy⟩
end Law
namespace Law
open PySem L2 HC PyProof.Rows
variable {p n g : Nat} {bs : List Blk}
end Law
namespace Law
open PySem L2 HC PyProof.Rows
end Law
namespace Law
open PySem L2 HC PyProof.Rows
end Law
namespace Law
open PySem L2 HC PyProof.Rows
theorem none_zero {r : Row} (h : noneN r = 0) : ∀ o ∈ r, o ≠ none := fun o ho e => by
  unfold noneN at h
  have := List.length_eq_zero_iff.mp h
  have h2 : o ∈ r.filter Option.isNone := List.mem_filter.mpr ⟨ho, by rw [e]; rfl⟩
  rw [this] at h2
  cases h2
end Law
namespace Law
open PySem L2 HC PyProof.Rows
end Law
namespace Law
open PySem L2 HC PyProof.Rows
end Law
namespace Law
open PySem L2 HC PyProof.Rows
end Law
namespace Law
end Law
namespace Law
open PySem L2 HC PyProof.Rows
end Law
namespace Law
open PySem L2 HC PyProof.Rows
end Law
namespace Law
open PySem L2 HC PyProof.Rows
theorem LPot.del {p q r : Addr} {b : Nat} {M : Ms} (h : LPot p q b M) (h1 : r ≠ p) (h2 : r ≠ q) : LPot p q b (mdel M r) := by
  obtain ⟨hne, ⟨t, c, hp, hc⟩, own, hq⟩ := h
  exact ⟨hne, ⟨t, c, by rw [mdel_ne h1.symm]; exact hp, hc⟩, own, by rw [mdel_ne h2.symm]; exact hq⟩
theorem Off.del {p q r : Addr} {M M1 : Ms} (h : Off p q M M1) (hr : M r = none) : Off p q M (mdel M1 r) := fun a d h1 h2 e => by rw [mdel_ne (ne_of_new e hr)]; exact h a d h1 h2 e
structure Mar (s t : Store) (row : Nat) (W X : List Nat) : Prop where
  ok : t.Ok
  j : t.journal = []
  head : t.head = s.head
  len : t.disks.length = s.disks.length
  lenD : ∀ i, lenD t.disks i = lenD s.disks i
  rest : ∀ i r, r ≠ row → t.cell i r = s.cell i r
  wrong : ∀ i, i ∈ W → ∃ B C, s.cell i row = some B ∧ t.cell i row = some C ∧ C ≠ B ∧ BlkOk' C s.head.size
  gone : ∀ i, i ∉ W → i ∈ X → t.cell i row = none
  same : ∀ i, i ∉ W → i ∉ X → t.cell i row = s.cell i row
theorem Mar.refl {s : Store} (ok : s.Ok) (hj : s.journal = []) (row : Nat) : Mar s s row [] [] := ⟨ok, hj, rfl, rfl, fun _ => rfl, fun _ _ _ => rfl, fun i h => by (cases h), fun i _ h => by (cases h), fun _ _ _ => rfl⟩
theorem Mar.spoil {s t : Store} {row d : Nat} {W : List Nat} {B C : Blk} (h : Mar s t row W []) (hd : d ∉ W) (hr : row < s.head.rows) (hB : s.cell d row = some B) (hC : BlkOk' C s.head.size) (hne : C ≠ B) : Mar s (applyC t (.spoil d row C)) row (W ++ [d]) [] := by
  have hs : BlkOk' C t.head.size := by rw [h.head]; exact hC
  obtain ⟨k1, k2, k3⟩ := ok_spoil h.ok h.j d row hs
  have e : applyC t (.spoil d row C) = ⟨t.head, setD t.disks d row (some C), t.journal⟩ := setCell_eq t d row (some C)
  have hl : ∃ n, Law.lenD s.disks d = some n ∧ row < n := by
    unfold Law.lenD
    unfold Store.cell at hB
    cases q : s.disks.getD d none with
    | none => rw [q] at hB; cases hB
    | some bs =>
      rw [q] at hB
      refine ⟨bs.length, rfl, ?_⟩
      by_cases l : row < bs.length
      · exact l
      · have hB : bs.getD row none = some B := hB
        rw [List.getD_eq_getElem?_getD, List.getElem?_eq_none (by omega)] at hB
        cases hB
  obtain ⟨n, hn, hrn⟩ := hl
  rw [e] at k1 k2 k3 ⊢
  have cellE : ∀ i r, (⟨t.head, setD t.disks d row (some C), t.journal⟩ : Store).cell i r = cellD (setD t.disks d row (some C)) i r := fun _ _ => rfl
  refine ⟨k1, k2, h.head, setD_len.trans h.len, fun i => setD_lenD.trans (h.lenD i), fun i r hne' => ?_, fun i hi => ?_, fun i _ hx => by (cases hx), fun i hi _ => ?_⟩
  · rw [cellE, setD_ne (.inr hne')]; exact h.rest i r hne'
  · rcases List.mem_append.mp hi with q | q
    · obtain ⟨B', C', a1, a2, a3, a4⟩ := h.wrong i q
      refine ⟨B', C', a1, ?_, a3, a4⟩
      rw [cellE, setD_ne (.inl (show i ≠ d from fun e => hd (by rw [← e]; exact q)))]
      exact a2
    · have q := List.mem_singleton.mp q
      subst q
      refine ⟨B, C, hB, ?_, hne, hC⟩
      rw [cellE]
      exact setD_eq ((h.lenD i).trans hn) hrn
  · have hiW : i ∉ W := fun q => hi (List.mem_append_left _ q)
    have hid : i ≠ d := fun q => hi (List.mem_append_right _ (by rw [q]; exact List.mem_singleton.mpr rfl))
    rw [cellE, setD_ne (.inl hid)]
    exact h.same i hiW (by simp)
theorem Mar.bad {s t : Store} {row d : Nat} {W X : List Nat} (h : Mar s t row W X) (hd : d ∉ W) : Mar s (applyC t (.bad d row)) row W (d :: X) := by
  have e : applyC t (.bad d row) = ⟨t.head, setD t.disks d row none, t.journal⟩ := setCell_eq t d row none
  have h1 := ok_bad h.ok h.j d row
  have hag := fun i => (show cellD (setD t.disks d row none) i row = none ∨ cellD (setD t.disks d row none) i row = cellD t.disks i row from by
    rcases setD_or (ds := t.disks) (d := d) (r := row) (i := i) (q := row) (o := none) with q | ⟨_, _, q⟩
    · exact .inr q
    · exact .inl q)
  rw [e] at h1 ⊢
  have cellE : ∀ i r, (⟨t.head, setD t.disks d row none, t.journal⟩ : Store).cell i r = cellD (setD t.disks d row none) i r := fun _ _ => rfl
  refine ⟨h1.1, h1.2, h.head, setD_len.trans h.len, fun i => setD_lenD.trans (h.lenD i), fun i r hne => ?_, fun i hi => ?_, fun i hi hx => ?_, fun i hi hx => ?_⟩
  · rw [cellE, setD_ne (.inr hne)]; exact h.rest i r hne
  · obtain ⟨B', C', a1, a2, a3, a4⟩ := h.wrong i hi
    refine ⟨B', C', a1, ?_, a3, a4⟩
    rw [cellE, setD_ne (.inl (show i ≠ d from fun e => hd (by rw [← e]; exact hi)))]
    exact a2
  · rw [cellE]
    rcases List.mem_cons.mp hx with q | q
    · subst q
      cases hn : Law.lenD t.disks i with
      | none =>
        have : t.cell i row = none := by
          unfold Law.lenD at hn
          unfold Store.cell
          cases q : t.disks.getD i none with
          | none => rfl
          | some bs => rw [q] at hn; cases hn
        rcases hag i with a | a
        · exact a
        · exact a.trans this
      | some n =>
        by_cases l : row < n
        · exact setD_eq hn l
        · rcases hag i with a | a
          · exact a
          · rw [a]
            unfold Law.lenD at hn
            unfold cellD
            cases q : t.disks.getD i none with
            | none => rfl
            | some bs =>
              rw [q] at hn
              have hn : some bs.length = some n := hn
              cases hn
              show bs.getD row none = none
              rw [List.getD_eq_getElem?_getD, List.getElem?_eq_none (by omega)]
              rfl
    · rcases hag i with a | a
      · exact a
      · exact a.trans (h.gone i hi q)
  · have hid : i ≠ d := fun q => hx (by rw [q]; exact List.mem_cons_self)
    rw [cellE, setD_ne (.inl hid)]
    exact h.same i hi fun q => hx (List.mem_cons_of_mem _ q)
end Law
namespace Law
open PySem L2 HC PyProof.Rows
def potG (n s : Int) : Cell := .lst [.int n, .int s]
structure GPot (p : Addr) (M : Ms) : Prop where
  d : ∃ n s : Int, M p = some (potG n s) ∧ 0 ≤ s ∧ s < 4611686018427387904
def OffP (p : Addr) (M M' : Ms) : Prop := ∀ a c, a ≠ p → M a = some c → M' a = some c
theorem OffP.refl (p : Addr) (M : Ms) : OffP p M M := fun _ _ _ e => e
theorem OffP.trans {p : Addr} {M M1 M2 : Ms} (h : OffP p M M1) (k : OffP p M1 M2) : OffP p M M2 := fun a d h1 e => k a d h1 (h a d h1 e)
theorem OffP.p {p : Addr} {M M1 : Ms} {c : Cell} (h : OffP p M M1) : OffP p M (mup M1 p c) := fun a d h1 e => by rw [mup_ne h1]; exact h a d h1 e
theorem OffP.sub {p : Addr} {M M1 M2 : Ms} (h : OffP p M M1) (k : Sub M1 M2) : OffP p M M2 := fun a d h1 e => k a d (h a d h1 e)
theorem OffP.put {p r : Addr} {M M1 : Ms} {c : Cell} (h : OffP p M M1) (hr : M r = none) : OffP p M (mup M1 r c) := fun a d h1 e => by rw [mup_ne (ne_of_new e hr)]; exact h a d h1 e
theorem OffP.del {p r : Addr} {M M1 : Ms} (h : OffP p M M1) (hr : M r = none) : OffP p M (mdel M1 r) := fun a d h1 e => by rw [mdel_ne (ne_of_new e hr)]; exact h a d h1 e
theorem OffP.at {p r : Addr} {M M1 : Ms} {c : Cell} (h : OffP p M M1) (h1 : r ≠ p) (e : M r = some c) : M1 r = some c := h r c h1 e
theorem GPot.sub {p : Addr} {M M1 : Ms} (h : GPot p M) (k : Sub M M1) : GPot p M1 := by
  obtain ⟨n, s, e, h1⟩ := h.d
  exact ⟨n, s, k _ _ e, h1⟩
theorem GPot.nep {p r : Addr} {M : Ms} (h : GPot p M) (hr : M r = none) : r ≠ p := by
  obtain ⟨n, s, e, _⟩ := h.d
  exact (ne_of_new e hr).symm
theorem GPot.put {p r : Addr} {M : Ms} {c : Cell} (h : GPot p M) (h1 : r ≠ p) : GPot p (mup M r c) := by
  obtain ⟨n, s, e, h2⟩ := h.d
  exact ⟨n, s, by rw [mup_ne h1.symm]; exact e, h2⟩
theorem GPot.del {p r : Addr} {M : Ms} (h : GPot p M) (h1 : r ≠ p) : GPot p (mdel M r) := by
  obtain ⟨n, s, e, h2⟩ := h.d
  exact ⟨n, s, by rw [mdel_ne h1.symm]; exact e, h2⟩
end Law
namespace Law
open PySem L2 HC PyProof.Rows
def lostC (s : Store) : Nat := (s.disks.filter Option.isNone).length
def badK (r : Nat) : Disk → Bool
  | none => false
  | some bs => (bs.getD r none).isNone
def badC (s : Store) (r : Nat) : Nat := ((s.disks.take (s.wide r)).filter (badK r)).length
theorem filter_range {α : Type} (d : α) (p : α → Bool) : ∀ (xs : List α) (n : Nat), n ≤ xs.length → ((List.range n).filter fun i => p (xs.getD i d)).length = ((xs.take n).filter p).length
  | xs, 0, _ => by simp
  | xs, n + 1, h => by
    have ih := filter_range d p xs n (by omega)
    rw [List.range_succ, List.filter_append, List.length_append, ih, List.take_add_one, List.getElem?_eq_getElem (by omega), List.filter_append, List.length_append]
    congr 1
    have e : xs.getD n d = xs[n] := by rw [List.getD_eq_getElem?_getD, List.getElem?_eq_getElem (by omega)]; rfl
    show (List.filter (fun i => p (xs.getD i d)) [n]).length = (List.filter p [xs[n]]).length
    rw [List.filter_cons, List.filter_cons, e]
    cases p xs[n] <;> simp
theorem none_split (r : Nat) : ∀ ds : List Disk, (ds.filter fun d => d.isNone || badK r d).length = (ds.filter Option.isNone).length + (ds.filter (badK r)).length
  | [] => by simp
  | d :: ds => by
    have ih := none_split r ds
    rw [List.filter_cons, List.filter_cons, List.filter_cons]
    cases d with
    | none =>
      show (none :: ds.filter fun d => d.isNone || badK r d).length = (none :: ds.filter Option.isNone).length + (ds.filter (badK r)).length
      rw [List.length_cons, List.length_cons, ih]; omega
    | some bs =>
      cases e : badK r (some bs) with
      | true =>
        show ((some bs) :: ds.filter fun d => d.isNone || badK r d).length = (ds.filter Option.isNone).length + ((some bs) :: ds.filter (badK r)).length
        rw [List.length_cons, List.length_cons, ih]; omega
      | false => exact ih
theorem none_worst {s : Store} (ok : s.Ok) (r : Nat) : noneN (s.row r) ≤ lostC s + badC s r := by
  have wl := ok.wide_le r
  have w0 : 0 < s.wide r := Nat.lt_of_le_of_lt (Nat.zero_le _) (ok.wide_pos r)
  have h1 : noneN (s.row r) ≤ ((List.range (s.wide r)).filter fun i => (s.cell i r).isNone).length := by
    rw [noneN_row]
    have e : ((List.range (s.wide r)).filter fun j => (s.cell ((r + j) % s.wide r) r).isNone).length = (((List.range (s.wide r)).filter fun j => (s.cell ((r + j) % s.wide r) r).isNone).map fun j => (r + j) % s.wide r).length := by rw [List.length_map]
    rw [e]
    refine List.Nodup.length_le_of_subset ?_ ?_
    · refine List.Pairwise.map _ (R := fun a b => a ≠ b ∧ a < s.wide r ∧ b < s.wide r) (fun a b h e => h.1 (mod_inj h.2.1 h.2.2 e)) ?_
      refine List.Pairwise.imp_of_mem (R := fun a b => a ≠ b) (fun {a b} ha hb h => ⟨h, List.mem_range.mp (List.mem_filter.mp ha).1, List.mem_range.mp (List.mem_filter.mp hb).1⟩) ?_
      exact List.Pairwise.filter _ List.nodup_range
    · intro x hx
      obtain ⟨j, hj, rfl⟩ := List.mem_map.mp hx
      obtain ⟨h1, h2⟩ := List.mem_filter.mp hj
      exact List.mem_filter.mpr ⟨List.mem_range.mpr (Nat.mod_lt _ w0), h2⟩
  have h2 : ((List.range (s.wide r)).filter fun i => (s.cell i r).isNone).length = ((s.disks.take (s.wide r)).filter fun d => d.isNone || badK r d).length := by
    rw [← filter_range none (fun d : Disk => d.isNone || badK r d) s.disks (s.wide r) wl]
    congr 1
    refine List.filter_congr fun i _ => ?_
    unfold Store.cell
    cases s.disks.getD i none with
    | none => rfl
    | some bs => rfl
  rw [h2, none_split] at h1
  have h3 : ((s.disks.take (s.wide r)).filter Option.isNone).length ≤ lostC s := (List.Sublist.filter _ (List.take_sublist _ _)).length_le
  unfold badC
  omega
end Law
namespace Law
open PySem L2 HC PyProof.Rows
end Law
namespace Law
open PySem L2 HC PyProof.Rows
def HurtW (s t : Store) : Prop := (∃ T, Few s t T) ∧ t.head.width = s.head.width ∧ t.head.moved = s.head.moved
theorem HurtW.refl {s : Store} (ok : s.Ok) (hj : s.journal = []) : HurtW s s := ⟨⟨[], Few.refl ok hj⟩, rfl, rfl⟩
theorem HurtW.lose {s t : Store} (h : HurtW s t) (d : Nat) : HurtW s (applyC t (.lose d)) := by
  obtain ⟨⟨T, f⟩, h2, h3⟩ := h
  exact ⟨⟨d :: T, (f.more d).lose (List.mem_cons_self ..)⟩, h2, h3⟩
theorem HurtW.spare {s t : Store} (h : HurtW s t) (d : Nat) : HurtW s (applyC t (.spare d)) := by
  obtain ⟨⟨T, f⟩, h2, h3⟩ := h
  exact ⟨⟨d :: T, (f.more d).spare (List.mem_cons_self ..)⟩, h2, h3⟩
theorem HurtW.bad {s t : Store} (h : HurtW s t) (d r : Nat) : HurtW s (applyC t (.bad d r)) := by
  obtain ⟨⟨T, f⟩, h2, h3⟩ := h
  have e : applyC t (.bad d r) = ⟨t.head, setD t.disks d r none, t.journal⟩ := setCell_eq t d r none
  exact ⟨⟨d :: T, (f.more d).bad r (List.mem_cons_self ..)⟩, by rw [e]; exact h2, by rw [e]; exact h3⟩
theorem HurtW.ok {s t : Store} (h : HurtW s t) : t.Ok := by
  obtain ⟨⟨T, f⟩, _⟩ := h
  exact f.ok
theorem HurtW.j {s t : Store} (h : HurtW s t) : t.journal = [] := by
  obtain ⟨⟨T, f⟩, _⟩ := h
  exact f.j
end Law
namespace Law
open PySem L2 HC PyProof.Rows
def Store.come1 (s : Store) : Nat := s.head.width + 1 - s.head.par
def comeX (s : Store) (fs : List (List Blk)) (n : Nat) : Blk := if n < s.kept then (fs.getD (s.spotN n).1 []).getD (s.spotN n).2 [] else zeroB s.head.size
def comeB (s : Store) (fs : List (List Blk)) : List Blk := (List.range s.come1).map fun i => comeX s fs (s.head.moved * s.come1 + i)
def comeF (s : Store) (fs : List (List Blk)) : List Blk := comeB s fs ++ parB s.head.par s.head.size (comeB s fs)
def comeAt (s : Store) (F : List Blk) (p : Nat) : Option BN := if (s.disks.getD ((s.head.moved + p) % (s.head.width + 1)) none).isSome then some ((s.head.moved + p) % (s.head.width + 1), s.head.moved, F.getD p []) else none
def comeN (s : Store) (F : List Blk) : List BN := (List.range F.length).filterMap (comeAt s F)
def comeC (s : Store) (F : List Blk) : List Chg := if s.head.moved + 1 = s.head.rows then deedC (comeN s F) (s.head.width + 1) 0 else deedC (comeN s F) s.head.width (s.head.moved + 1)
theorem comeX_wf {s : Store} {fs : List (List Blk)} (ok : s.Ok) (a : Agree s fs) (n : Nat) : BlkOk' (comeX s fs n) s.head.size := by
  unfold comeX
  by_cases h : n < s.kept
  · rw [if_pos h]
    obtain ⟨a1, a2, a3⟩ := spot_in ok h
    have fl := a.rowLen ok a1
    exact a.wf a1 _ (getD_mem (by omega))
  · rw [if_neg h]
    exact zeroB_wf
theorem comeB_wf {s : Store} {fs : List (List Blk)} (ok : s.Ok) (a : Agree s fs) : WfR s.head.size (comeB s fs) := fun b hb => by
  obtain ⟨i, _, rfl⟩ := List.mem_map.mp hb
  exact comeX_wf ok a _
theorem comeB_len (s : Store) (fs : List (List Blk)) : (comeB s fs).length = s.come1 := by
  unfold comeB
  rw [List.length_map, List.length_range]
theorem comeF_len {s : Store} (ok : s.Ok) (fs : List (List Blk)) : (comeF s fs).length = s.head.width + 1 := by
  unfold comeF
  have := ok.wide_pos 0
  have h1 := ok.head.par1
  rw [List.length_append, comeB_len, parB_len h1 ok.head.par2]
  unfold Store.come1
  have := ok.head.width1
  omega
theorem comeF_wf {s : Store} {fs : List (List Blk)} (ok : s.Ok) (a : Agree s fs) : WfR s.head.size (comeF s fs) := fun b hb => by
  rcases List.mem_append.mp hb with h | h
  · exact comeB_wf ok a b h
  · exact parB_wf (comeB_wf ok a) b h
end Law
set_option maxHeartbeats 1000000
namespace Law
open PySem L2 HC PyProof.Rows
theorem setD_none {ds : List Disk} {d r : Nat} {o : Option Blk} : (setD ds d r o).map Option.isNone = ds.map Option.isNone := by
  unfold setD
  cases e : ds.getD d none with
  | none => rfl
  | some bs =>
    show (ds.set d (some (bs.set r o))).map Option.isNone = _
    refine List.ext_getElem (by simp) fun i h1 h2 => ?_
    rw [List.getElem_map, List.getElem_map, List.getElem_set]
    by_cases q : d = i
    · subst q
      rw [if_pos rfl]
      have hl : d < ds.length := by simpa using h2
      rw [List.getD_eq_getElem?_getD, List.getElem?_eq_getElem hl] at e
      have e : ds[d] = some bs := e
      rw [e]
      rfl
    · rw [if_neg q]
theorem blkF_none : ∀ (xs : List BN) (ds : List Disk), (blkF ds xs).map Option.isNone = ds.map Option.isNone
  | [], _ => rfl
  | x :: xs, ds => (blkF_none xs _).trans setD_none
theorem lost_map (ds : List Disk) : (ds.filter Option.isNone).length = ((ds.map Option.isNone).filter id).length := by
  rw [List.filter_map, List.length_map]
  rfl
def moveW (t : Store) : Nat := if t.head.moved + 1 = t.head.rows then t.head.width + 1 else t.head.width
def moveM (t : Store) : Nat := if t.head.moved + 1 = t.head.rows then 0 else t.head.moved + 1
def moveS (t : Store) (F : List Blk) : Store := ⟨⟨t.head.par, t.head.size, t.head.rows, moveW t, moveM t, t.head.spares⟩, blkF t.disks (comeN t F), []⟩
theorem moveS_eq (t : Store) (F : List Blk) : (comeC t F).foldl applyC t = moveS t F := by
  unfold comeC moveS moveW moveM
  by_cases h : t.head.moved + 1 = t.head.rows
  · rw [if_pos h, if_pos h, if_pos h, deed_fold]
  · rw [if_neg h, if_neg h, if_neg h, deed_fold]
variable {t : Store} {F : List Blk}
theorem mem_come {x : BN} : x ∈ comeN t F ↔ ∃ p, p < F.length ∧ (t.disks.getD ((t.head.moved + p) % (t.head.width + 1)) none).isSome = true ∧ x = ((t.head.moved + p) % (t.head.width + 1), t.head.moved, F.getD p []) := by
  unfold comeN
  rw [List.mem_filterMap]
  constructor
  · rintro ⟨p, hp, e⟩
    unfold comeAt at e
    split at e
    · rename_i h
      exact ⟨p, List.mem_range.mp hp, h, (Option.some.inj e).symm⟩
    · cases e
  · rintro ⟨p, hp, h, rfl⟩
    exact ⟨p, List.mem_range.mpr hp, by unfold comeAt; rw [if_pos h]⟩
theorem moved_lt (ok : t.Ok) (gr : t.head.width < t.disks.length) : t.disks.length = t.head.width + 1 ∧ t.disks.length ≤ 10 ∧ t.head.moved < t.head.rows := by
  rcases ok.head.many with h | h
  · omega
  · exact h
theorem move_ok (ok : t.Ok) (gr : t.head.width < t.disks.length) (hF : WfR t.head.size F) : (moveS t F).Ok := by
  obtain ⟨g1, g2, g3⟩ := moved_lt ok gr
  refine ⟨?_, blkF_ok _ _ ok.disks fun x hx => ?_, fun i n h => by simp [moveS] at h⟩
  · show Head.Ok _ (blkF t.disks _).length
    rw [blkF_len]
    have w1 := ok.head.width1
    show Head.Ok (⟨t.head.par, t.head.size, t.head.rows, moveW t, moveM t, t.head.spares⟩ : Head) t.disks.length
    unfold moveW moveM
    by_cases h : t.head.moved + 1 = t.head.rows
    · rw [if_pos h, if_pos h]
      exact headOk ok.head.par1 ok.head.par2 ok.head.size1 ok.head.size2 ok.head.rows1 ok.head.rows2 (by omega) (by omega) (.inl ⟨g1, rfl⟩) ok.head.sp
    · rw [if_neg h, if_neg h]
      exact headOk ok.head.par1 ok.head.par2 ok.head.size1 ok.head.size2 ok.head.rows1 ok.head.rows2 w1 ok.head.width2 (.inr ⟨g1, g2, by omega⟩) ok.head.sp
  · obtain ⟨p, hp, _, rfl⟩ := mem_come.mp hx
    exact hF _ (getD_mem hp)
theorem move_wide (hm : t.head.moved < t.head.rows) {r : Nat} (hr : r < t.head.rows) : (moveS t F).wide r = if r = t.head.moved then t.head.width + 1 else t.wide r := by
  show moveW t + (if r < moveM t then 1 else 0) = _
  unfold moveW moveM Store.wide
  by_cases h : t.head.moved + 1 = t.head.rows
  · rw [if_pos h, if_pos h, if_neg (Nat.not_lt_zero _)]
    by_cases e : r = t.head.moved
    · rw [if_pos e]
    · rw [if_neg e, if_pos (show r < t.head.moved by omega)]
  · rw [if_neg h, if_neg h]
    by_cases e : r = t.head.moved
    · rw [if_pos e, if_pos (by omega)]
    · rw [if_neg e]
      by_cases q : r < t.head.moved
      · rw [if_pos q, if_pos (by omega)]
      · rw [if_neg q, if_neg (by omega)]
theorem move_cell_no {i r : Nat} (h : r ≠ t.head.moved) : (moveS t F).cell i r = t.cell i r := by
  rw [cell_D, cell_D]
  refine blkF_no _ _ fun x hx => .inr ?_
  obtain ⟨p, _, _, rfl⟩ := mem_come.mp hx
  exact h
theorem move_cell_yes (ok : t.Ok) (hm : t.head.moved < t.head.rows) (hF : F.length = t.head.width + 1) {p : Nat} (hp : p < t.head.width + 1) (hs : (t.disks.getD ((t.head.moved + p) % (t.head.width + 1)) none).isSome = true) :
    (moveS t F).cell ((t.head.moved + p) % (t.head.width + 1)) t.head.moved = some (F.getD p []) := by
  rw [cell_D]
  refine blkF_yes (n := t.head.rows) hm _ _ ?_ ⟨_, mem_come.mpr ⟨p, by omega, hs, rfl⟩, rfl, rfl⟩ fun x hx e1 e2 => ?_
  · unfold lenD
    have dk := ok.disk (i := (t.head.moved + p) % (t.head.width + 1))
    cases e : t.disks.getD ((t.head.moved + p) % (t.head.width + 1)) none with
    | none => rw [e] at hs; cases hs
    | some bs =>
      rw [e] at dk
      exact congrArg some (dk bs rfl).1
  · obtain ⟨q, hq, _, rfl⟩ := mem_come.mp hx
    rw [mod_inj (w := t.head.width + 1) (r := t.head.moved) (by omega) hp e1]
theorem move_cell_out {i r : Nat} (hs : t.disks.getD i none = none) : (moveS t F).cell i r = none := by
  rw [cell_D]
  have h := blkF_lenD (i := i) (comeN t F) t.disks
  unfold lenD at h
  rw [hs] at h
  unfold cellD
  show (match (blkF t.disks (comeN t F)).getD i none with | none => none | some bs => bs.getD r none) = none
  cases e : (blkF t.disks (comeN t F)).getD i none with
  | none => rfl
  | some bs => rw [e] at h; cases h
theorem move_agree {fs : List (List Blk)} (ok : t.Ok) (gr : t.head.width < t.disks.length) (ag : Agree t fs) {as : List Blk} (e : F = as ++ parB t.head.par t.head.size as) (hl : as.length + t.head.par = t.head.width + 1) (hw : WfR t.head.size as) :
    Agree (moveS t F) (fs.set t.head.moved F) := by
  obtain ⟨g1, g2, hm⟩ := moved_lt ok gr
  have lF : F.length = t.head.width + 1 := by rw [e, List.length_append, parB_len ok.head.par1 ok.head.par2, hl]
  have gm : (fs.set t.head.moved F).getD t.head.moved [] = F := by rw [getD_setA, if_pos ⟨rfl, by rw [ag.len]; exact hm⟩]
  have gn : ∀ r, r ≠ t.head.moved → (fs.set t.head.moved F).getD r [] = fs.getD r [] := fun r h => by rw [getD_setA, if_neg (fun q => h q.1.symm)]
  refine ⟨by rw [List.length_set]; exact ag.len, fun r hr => ?_, fun r hr j hj => ?_⟩
  · have hr : r < t.head.rows := hr
    rw [move_wide hm hr]
    by_cases q : r = t.head.moved
    · subst q
      rw [gm, if_pos rfl]
      exact ⟨as, e, hl, hw⟩
    · rw [gn r q, if_neg q]
      exact ag.row r hr
  · have hr : r < t.head.rows := hr
    rw [move_wide hm hr] at hj ⊢
    by_cases q : r = t.head.moved
    · subst q
      rw [if_pos rfl] at hj ⊢
      rw [gm]
      cases hs : t.disks.getD ((t.head.moved + j) % (t.head.width + 1)) none with
      | none => exact .inl (move_cell_out hs)
      | some bs => exact .inr (move_cell_yes ok hm lF hj (by rw [hs]; rfl))
    · rw [if_neg q] at hj ⊢
      rw [gn r q, move_cell_no q]
      exact ag.cell r hr j hj
theorem move_lost : lostC (moveS t F) = lostC t := by
  unfold lostC
  rw [lost_map, lost_map]
  show ((blkF t.disks _).map Option.isNone |>.filter id).length = _
  rw [blkF_none]
theorem move_row_no (hm : t.head.moved < t.head.rows) {r : Nat} (hr : r < t.head.rows) (h : r ≠ t.head.moved) : (moveS t F).row r = t.row r := by
  unfold Store.row
  rw [move_wide hm hr, if_neg h]
  exact List.map_congr_left fun j _ => move_cell_no h
theorem turn_at {m w i : Nat} (hi : i < w) : ∃ p, p < w ∧ (m + p) % w = i := by
  have h0 : m % w < w := Nat.mod_lt _ (by omega)
  have hd := Nat.div_add_mod m w
  by_cases h : m % w ≤ i
  · refine ⟨i - m % w, by omega, ?_⟩
    have : m + (i - m % w) = i + w * (m / w) := by omega
    rw [this, Nat.add_mul_mod_self_left, Nat.mod_eq_of_lt hi]
  · refine ⟨i + w - m % w, by omega, ?_⟩
    have : m + (i + w - m % w) = i + w * (m / w + 1) := by rw [Nat.mul_succ]; omega
    rw [this, Nat.add_mul_mod_self_left, Nat.mod_eq_of_lt hi]
theorem move_none (ok : t.Ok) (gr : t.head.width < t.disks.length) (hw : WfR t.head.size F) (hF : F.length = t.head.width + 1) {most : Nat} (b1 : lostC t ≤ most) (b2 : ∀ r, r < t.head.rows → noneN (t.row r) ≤ most) {r : Nat} (hr : r < t.head.rows) :
    noneN ((moveS t F).row r) ≤ most := by
  obtain ⟨g1, g2, hm⟩ := moved_lt ok gr
  by_cases q : r = t.head.moved
  · subst q
    refine Nat.le_trans (none_worst (move_ok ok gr hw) _) ?_
    rw [move_lost]
    have : badC (moveS t F) t.head.moved = 0 := by
      unfold badC
      rw [List.length_eq_zero_iff, List.filter_eq_nil_iff]
      intro k hk
      obtain ⟨i, hi, e⟩ := List.getElem_of_mem hk
      rw [List.length_take, move_wide hm hr, if_pos rfl] at hi
      have hi' : i < t.head.width + 1 := by omega
      rw [List.getElem_take] at e
      obtain ⟨p, hp, ep⟩ := turn_at (m := t.head.moved) hi'
      have gd : (moveS t F).disks.getD i none = k := by
        rw [List.getD_eq_getElem?_getD, List.getElem?_eq_getElem (by omega)]
        exact e
      cases k with
      | none => exact Bool.false_ne_true
      | some bs =>
        have hs : (t.disks.getD i none).isSome = true := by
          cases z : t.disks.getD i none with
          | some _ => rfl
          | none =>
            have h := blkF_lenD (i := i) (comeN t F) t.disks
            unfold lenD at h
            rw [z] at h
            have gd : (blkF t.disks (comeN t F)).getD i none = some bs := gd
            rw [gd] at h
            cases h
        have hc := move_cell_yes (F := F) ok hm hF hp (by rw [ep]; exact hs)
        rw [ep] at hc
        unfold Store.cell at hc
        rw [gd] at hc
        have hc : bs.getD t.head.moved none = some (F.getD p []) := hc
        show ¬ (bs.getD t.head.moved none).isNone = true
        rw [hc]
        exact Bool.false_ne_true
    omega
  · rw [move_row_no hm hr q]
    exact b2 r hr
end Law
namespace Law
open PySem L2 HC PyProof.Rows
structure InvG (z : Szs) (flat : Blk) (m : Nat) (t : Store) : Prop where
  ok : t.Ok
  j : t.journal = []
  par : t.head.par = z.par
  size : t.head.size = z.size
  rows : t.head.rows = z.rows
  width : t.head.width = z.width
  moved : t.head.moved = m
  many : t.disks.length = z.width + 1
  ag : Agree t (z.fsG flat m)
  lost : lostC t ≤ z.par
  none : ∀ r, r < z.rows → noneN (t.row r) ≤ z.par
variable {z : Szs} {flat : Blk} {m : Nat} {t s : Store}
theorem InvG.tells (h : InvG z flat m t) (ok : z.Ok) (hf : flat.length = z.room) : TellsF t (z.fsG flat m) flat := fun b hb => by
  have ek : t.kept = (z.s2 flat m).kept := by
    unfold Store.kept
    rw [h.rows, h.width, h.par]
    rfl
  have es : t.spotN b = (z.s2 flat m).spotN b := by
    unfold Store.spotN
    rw [h.width, h.par, h.moved]
    rfl
  rw [es, h.size]
  exact s2_tells ok hf (m := m) b (ek ▸ hb)
theorem InvG.come1 (h : InvG z flat m t) (ok : z.Ok) : t.come1 = z.k + 1 := by
  have w1 := ok.w1
  have ek : z.k = z.width - z.par := rfl
  unfold Store.come1
  rw [h.width, h.par]
  omega
theorem InvG.come (h : InvG z flat m t) (ok : z.Ok) (hf : flat.length = z.room) : comeF t (z.fsG flat m) = z.rowG flat m := by
  have e : comeB t (z.fsG flat m) = dataG z.size (z.k + 1) flat m (z.k + 1) := by
    unfold comeB dataG
    rw [h.come1 ok, h.moved]
    refine List.map_congr_left fun j _ => ?_
    have ek : t.kept = z.rows * z.k := by
      unfold Store.kept
      rw [h.rows, h.width, h.par]
      rfl
    generalize m * (z.k + 1) + j = n
    unfold comeX
    by_cases q : n < t.kept
    · rw [if_pos q, h.tells ok hf n q, h.size]
      have cl : (cutB z.size flat n).length = z.size := cutB_len (n := z.rows * z.k) hf (by omega)
      unfold padB
      rw [cl, Nat.sub_self]
      simp
    · rw [if_neg q, h.size]
      have : cutB z.size flat n = [] := by
        unfold cutB
        rw [List.drop_eq_nil_of_le, List.take_nil]
        rw [hf]
        show z.rows * z.k * z.size ≤ _
        exact Nat.mul_le_mul_right _ (by omega)
      unfold padB
      rw [this]
      rfl
  unfold comeF Szs.rowG
  rw [e, h.par, h.size]
theorem InvG.grows (h : InvG z flat m t) : t.head.width < t.disks.length := by
  rw [h.width, h.many]
  exact Nat.lt_succ_self _
theorem InvG.move (h : InvG z flat m t) (ok : z.Ok) (hb : ∀ y ∈ flat, y < 256) (hm : m + 1 < z.rows) : InvG z flat (m + 1) (moveS t (z.rowG flat m)) := by
  have w1 := ok.w1
  have ek : z.k = z.width - z.par := rfl
  have hw : WfR t.head.size (z.rowG flat m) := by rw [h.size]; exact rowG_wf hb m
  have hl : (z.rowG flat m).length = t.head.width + 1 := by rw [h.width]; exact rowG_len ok m
  have ne : ¬ t.head.moved + 1 = t.head.rows := by rw [h.moved, h.rows]; omega
  have ag := move_agree h.ok h.grows h.ag (F := z.rowG flat m) (as := dataG z.size (z.k + 1) flat m (z.k + 1)) (by rw [h.par, h.size]; rfl) (by rw [dataG_len, h.par, h.width]; omega) (by rw [h.size]; exact dataG_wf hb _ _)
  rw [h.moved, fsG_set (by omega)] at ag
  refine ⟨move_ok h.ok h.grows hw, rfl, h.par, h.size, h.rows, ?_, ?_, ?_, ag, ?_, fun r hr => ?_⟩
  · show moveW t = _
    unfold moveW
    rw [if_neg ne]
    exact h.width
  · show moveM t = _
    unfold moveM
    rw [if_neg ne, h.moved]
  · show (blkF t.disks _).length = _
    rw [blkF_len]
    exact h.many
  · rw [move_lost]
    exact h.lost
  · exact move_none h.ok h.grows hw hl h.lost (fun r hr => h.none r (by rw [← h.rows]; exact hr)) (by rw [h.rows]; exact hr)
theorem InvG.last (h : InvG z flat m t) (hm : m + 1 = z.rows) (F : List Blk) : (moveS t F).disks.length = (moveS t F).head.width ∧ (moveS t F).head.moved = 0 ∧ (moveS t F).journal = [] := by
  have e : t.head.moved + 1 = t.head.rows := by rw [h.moved, h.rows]; exact hm
  refine ⟨?_, ?_, rfl⟩
  · show (blkF t.disks _).length = moveW t
    unfold moveW
    rw [blkF_len, if_pos e, h.width, h.many]
  · show moveM t = 0
    unfold moveM
    rw [if_pos e]
end Law
namespace Law
open PySem L2 HC PyProof.Rows
def stG (z : Szs) (flat : Blk) (m : Nat) (t : Store) : Nat → Store
  | 0 => t
  | j + 1 => moveS (stG z flat m t j) (z.rowG flat (m + j))
variable {z : Szs} {flat : Blk} {m : Nat} {t : Store}
theorem InvG.rest (h : InvG z flat m t) (ok : z.Ok) (hb : ∀ y ∈ flat, y < 256) : ∀ j, m + j < z.rows → InvG z flat (m + j) (stG z flat m t j)
  | 0, _ => h
  | j + 1, hj => (InvG.rest h ok hb j (by omega)).move ok hb hj
end Law
namespace Law
open PySem L2 HC PyProof.Rows
variable {z : Szs} {flat : Blk} {m : Nat} {t : Store}
structure EndG (z : Szs) (flat : Blk) (u : Store) : Prop where
  ok : u.Ok
  j : u.journal = []
  par : u.head.par = z.par
  size : u.head.size = z.size
  rows : u.head.rows = z.rows
  width : u.head.width = z.width + 1
  moved : u.head.moved = 0
  many : u.disks.length = z.width + 1
  ag : Agree u (z.fsG flat z.rows)
  lost : lostC u ≤ z.par
  none : ∀ r, r < z.rows → noneN (u.row r) ≤ z.par
theorem EndG.tells {u : Store} (h : EndG z flat u) (ok : z.Ok) {b : Nat} (hb : b < u.kept) : ((z.fsG flat z.rows).getD (u.spotN b).1 []).getD (u.spotN b).2 [] = padB z.size flat b := by
  have w1 := ok.w1
  have ek : z.k = z.width - z.par := rfl
  have e : u.spotN b = (b / (z.k + 1), b % (z.k + 1)) := by
    unfold Store.spotN
    rw [h.moved, if_neg (Nat.not_lt_zero _), h.width, h.par, show z.width + 1 - z.par = z.k + 1 by omega]
    rfl
  have k0 : 0 < z.k + 1 := Nat.succ_pos _
  have hk : b < z.rows * (z.k + 1) := by
    have : u.kept = z.rows * (z.k + 1) := by
      unfold Store.kept
      rw [h.rows, h.width, h.par, show z.width + 1 - z.par = z.k + 1 by omega]
    omega
  have rk : b / (z.k + 1) < z.rows := Nat.div_lt_of_lt_mul (by rw [Nat.mul_comm]; exact hk)
  rw [e]
  show ((z.fsG flat z.rows).getD (b / (z.k + 1)) []).getD (b % (z.k + 1)) [] = _
  rw [fsG_get rk, if_pos rk]
  unfold Szs.rowG dataG
  rw [getD_data (Nat.mod_lt _ k0)]
  congr 1
  have := Nat.div_add_mod b (z.k + 1)
  rw [Nat.mul_comm] at this
  exact this
end Law
set_option maxHeartbeats 1000000
namespace Law
open PySem L2 HC PyProof.Rows
abbrev JE := Option (Nat × Nat)
def endJ (N : List BN) : JE → List Note
  | none => []
  | some q => [.fin N.length q.1 q.2]
def jrn (N : List BN) (e : JE) : List Note := N.map noteB' ++ endJ N e
def startS (t : Store) (N : List BN) : JE → Store
  | none => ⟨t.head, t.disks, []⟩
  | some q => ⟨⟨t.head.par, t.head.size, t.head.rows, q.1, q.2, t.head.spares⟩, blkF t.disks N, []⟩
def startC (N : List BN) : JE → List Chg
  | none => match N with
    | [] => []
    | _ => [.clear]
  | some q => N.map chgB ++ [Chg.head q.1 q.2, Chg.clear]
theorem start_fold {t : Store} {N : List BN} {e : JE} (h : t.journal = jrn N e) : (startC N e).foldl applyC t = startS t N e := by
  obtain ⟨hd, ds, js⟩ := t
  have h : js = jrn N e := h
  subst h
  cases e with
  | none =>
    cases N with
    | nil => rfl
    | cons x xs => rfl
  | some q =>
    show (N.map chgB ++ [Chg.head q.1 q.2, Chg.clear]).foldl applyC _ = _
    rw [List.foldl_append, fold_blk]
    rfl
theorem jrn_len (N : List BN) (e : JE) : (jrn N e).length ≤ N.length + 1 := by
  unfold jrn endJ
  cases e <;> simp
def wideL (w m r : Nat) : Nat := w + if r < m then 1 else 0
structure Lay where
  par : Nat
  size : Nat
  rows : Nat
  many : Nat
  w : Nat
  m : Nat
  fs : List (List Blk)
def Lay.wide (L : Lay) (r : Nat) : Nat := wideL L.w L.m r
structure Lie (L : Lay) (N : List BN) (e : JE) (t : Store) : Prop where
  ok : t.Ok
  j : t.journal = jrn N e
  par : t.head.par = L.par
  size : t.head.size = L.size
  rows : t.head.rows = L.rows
  many : t.disks.length = L.many
  lay : (e = none ∧ t.head.width = L.w ∧ t.head.moved = L.m) ∨ e = some (L.w, L.m)
  len : L.fs.length = L.rows
  form : ∀ r, r < L.rows → ∃ as : List Blk, L.fs.getD r [] = as ++ parB L.par L.size as ∧ as.length + L.par = L.wide r ∧ WfR L.size as
  right : e ≠ none → ∀ x ∈ N, ∃ p, p < L.wide x.2.1 ∧ x.1 = (x.2.1 + p) % L.wide x.2.1 ∧ x.2.2 = (L.fs.getD x.2.1 []).getD p []
  cell : ∀ r, r < L.rows → ∀ j, j < L.wide r → (e ≠ none ∧ ∃ x ∈ N, x.1 = (r + j) % L.wide r ∧ x.2.1 = r) ∨ t.cell ((r + j) % L.wide r) r = none ∨ t.cell ((r + j) % L.wide r) r = some ((L.fs.getD r []).getD j [])
theorem noteOk_h {h g : Head} {many i : Nat} {l : Bool} {n : Note} (k : NoteOk h many i l n) (e1 : g.par = h.par) (e2 : g.size = h.size) (e3 : g.rows = h.rows) : NoteOk g many i l n := by
  cases n with
  | block d r b =>
    show d < many ∧ r < g.rows ∧ BlkOk' b g.size
    rw [e2, e3]
    exact k
  | fin a w m =>
    show l = true ∧ a = i ∧ WidthsOk w m g.par g.rows many
    rw [e1, e3]
    exact k
variable {L : Lay} {N : List BN} {e : JE} {t : Store}
theorem Lie.notes (h : Lie L N e t) {x : BN} (hx : x ∈ N) : x.1 < L.many ∧ x.2.1 < L.rows ∧ BlkOk' x.2.2 L.size := by
  obtain ⟨i, hi, ei⟩ := List.getElem_of_mem hx
  have e1 : t.journal[i]? = some (noteB' x) := by
    rw [h.j]
    unfold jrn
    rw [List.getElem?_append_left (by rw [List.length_map]; exact hi), List.getElem?_map, List.getElem?_eq_getElem hi, ei]
    rfl
  have k := h.ok.journal i _ e1
  have k : x.1 < t.disks.length ∧ x.2.1 < t.head.rows ∧ BlkOk' x.2.2 t.head.size := k
  rw [h.many, h.rows, h.size] at k
  exact k
theorem Lie.fin {q : Nat × Nat} (h : Lie L N (some q) t) : WidthsOk q.1 q.2 L.par L.rows L.many := by
  have e1 : t.journal[N.length]? = some (.fin N.length q.1 q.2) := by
    rw [h.j]
    unfold jrn endJ
    rw [List.getElem?_append_right (by rw [List.length_map]; exact Nat.le_refl _), List.length_map, Nat.sub_self]
    rfl
  have k := h.ok.journal _ _ e1
  have k : _ ∧ _ ∧ WidthsOk q.1 q.2 t.head.par t.head.rows t.disks.length := k
  rw [h.many, h.rows, h.par] at k
  exact k.2.2
theorem Lie.eq_lay {q : Nat × Nat} (h : Lie L N (some q) t) : q = (L.w, L.m) := by
  rcases h.lay with ⟨a, _⟩ | a
  · cases a
  · exact Option.some.inj a
theorem headW {h : Head} {n w m : Nat} (ok : h.Ok n) (k : WidthsOk w m h.par h.rows n) : (⟨h.par, h.size, h.rows, w, m, h.spares⟩ : Head).Ok n :=
  ⟨ok.par1, ok.par2, ok.size1, ok.size2, ok.rows1, ok.rows2, k.1, k.2.1, k.2.2, ok.sp⟩
theorem Lie.okS (h : Lie L N e t) : (startS t N e).Ok := by
  cases e with
  | none => exact ⟨h.ok.head, h.ok.disks, fun i n q => by simp [startS] at q⟩
  | some q =>
    refine ⟨?_, blkF_ok _ _ h.ok.disks fun x hx => ?_, fun i n q => by simp [startS] at q⟩
    · show Head.Ok _ (blkF t.disks N).length
      rw [blkF_len]
      exact headW h.ok.head (by rw [h.par, h.rows, h.many]; exact h.fin)
    · have := (h.notes hx).2.2
      rw [← h.size] at this
      exact this
theorem Lie.jS : (startS t N e).journal = [] := by cases e <;> rfl
theorem Lie.parS (h : Lie L N e t) : (startS t N e).head.par = L.par := by cases e <;> exact h.par
theorem Lie.sizeS (h : Lie L N e t) : (startS t N e).head.size = L.size := by cases e <;> exact h.size
theorem Lie.rowsS (h : Lie L N e t) : (startS t N e).head.rows = L.rows := by cases e <;> exact h.rows
theorem Lie.widthS (h : Lie L N e t) : (startS t N e).head.width = L.w := by
  cases e with
  | none =>
    rcases h.lay with ⟨_, a, _⟩ | a
    · exact a
    · cases a
  | some q =>
    rw [h.eq_lay]
    rfl
theorem Lie.movedS (h : Lie L N e t) : (startS t N e).head.moved = L.m := by
  cases e with
  | none =>
    rcases h.lay with ⟨_, _, a⟩ | a
    · exact a
    · cases a
  | some q =>
    rw [h.eq_lay]
    rfl
theorem Lie.manyS (h : Lie L N e t) : (startS t N e).disks.length = L.many := by
  cases e with
  | none => exact h.many
  | some q =>
    show (blkF t.disks N).length = _
    rw [blkF_len]
    exact h.many
theorem Lie.wideS (h : Lie L N e t) (r : Nat) : (startS t N e).wide r = L.wide r := by
  unfold Store.wide
  rw [h.widthS, h.movedS]
  rfl
theorem lostS : lostC (startS t N e) = lostC t := by
  cases e with
  | none => rfl
  | some q =>
    unfold lostC
    rw [lost_map, lost_map]
    show ((blkF t.disks N).map Option.isNone |>.filter id).length = _
    rw [blkF_none]
theorem Lie.noted (h : Lie L N e t) (he : e ≠ none) {r j : Nat} (hr : r < L.rows) (hj : j < L.wide r) (hn : ∃ x ∈ N, x.1 = (r + j) % L.wide r ∧ x.2.1 = r) :
    (startS t N e).cell ((r + j) % L.wide r) r = if (t.disks.getD ((r + j) % L.wide r) none).isSome then some ((L.fs.getD r []).getD j []) else none := by
  cases e with
  | none => exact absurd rfl he
  | some q =>
    rw [cell_D]
    show cellD (blkF t.disks N) _ r = _
    cases hs : t.disks.getD ((r + j) % L.wide r) none with
    | none =>
      have h := blkF_lenD (i := (r + j) % L.wide r) N t.disks
      unfold lenD at h
      rw [hs] at h
      unfold cellD
      cases e : (blkF t.disks N).getD ((r + j) % L.wide r) none with
      | none => rfl
      | some bs => rw [e] at h; cases h
    | some bs =>
      have dl : (r + j) % L.wide r < t.disks.length := some_lt hs
      have dk : DiskOk (some bs) t.head.size t.head.rows := h.ok.disks _ (by
        rw [List.getD_eq_getElem?_getD, List.getElem?_eq_getElem dl] at hs
        have hs : t.disks[(r + j) % L.wide r] = some bs := hs
        rw [← hs]
        exact List.getElem_mem dl)
      refine blkF_yes (n := t.head.rows) (by rw [h.rows]; exact hr) _ _ ?_ hn fun x hx e1 e2 => ?_
      · unfold lenD
        rw [hs]
        exact congrArg some (dk bs rfl).1
      · obtain ⟨p, hp, a1, a2⟩ := h.right he x hx
        rw [e2] at hp a1 a2
        have : p = j := mod_inj hp hj (a1.symm.trans e1)
        rw [a2, this]
theorem Lie.other (h : Lie L N e t) {r i : Nat} (hn : ¬ (e ≠ none ∧ ∃ x ∈ N, x.1 = i ∧ x.2.1 = r)) : (startS t N e).cell i r = t.cell i r := by
  cases e with
  | none => rfl
  | some q =>
    rw [cell_D, cell_D]
    refine blkF_no _ _ fun x hx => ?_
    by_cases a : x.1 = i
    · right
      exact fun b => hn ⟨by simp, x, hx, a, b.symm⟩
    · exact .inl fun b => a b.symm
theorem Lie.agree (h : Lie L N e t) : Agree (startS t N e) L.fs := by
  refine ⟨by rw [h.rowsS]; exact h.len, fun r hr => ?_, fun r hr j hj => ?_⟩
  · rw [h.parS, h.sizeS, h.wideS]
    exact h.form r (by rw [← h.rowsS]; exact hr)
  · rw [h.wideS] at hj ⊢
    rw [h.rowsS] at hr
    by_cases q : e ≠ none ∧ ∃ x ∈ N, x.1 = (r + j) % L.wide r ∧ x.2.1 = r
    · rw [h.noted q.1 hr hj q.2]
      split
      · exact .inr rfl
      · exact .inl rfl
    · rw [h.other q]
      rcases h.cell r hr j hj with a | a
      · exact absurd a q
      · exact a
theorem Lie.less {s : Store} (h : Lie L N e t) (ok : s.Ok) (h0 : s.journal = t.journal) (h1 : s.head.par = t.head.par) (h2 : s.head.size = t.head.size) (h3 : s.head.rows = t.head.rows) (h4 : s.head.width = t.head.width) (h5 : s.head.moved = t.head.moved) (h6 : s.disks.length = t.disks.length)
    (h7 : ∀ i r, s.cell i r = none ∨ s.cell i r = t.cell i r) : Lie L N e s := by
  refine ⟨ok, h0.trans h.j, h1.trans h.par, h2.trans h.size, h3.trans h.rows, h6.trans h.many, ?_, h.len, h.form, h.right, fun r hr j hj => ?_⟩
  · rcases h.lay with ⟨a, b, c⟩ | a
    · exact .inl ⟨a, h4.trans b, h5.trans c⟩
    · exact .inr a
  · rcases h.cell r hr j hj with a | a
    · exact .inl a
    · right
      rcases h7 ((r + j) % L.wide r) r with b | b
      · exact .inl b
      · rw [b]; exact a
theorem ok_setJ {s : Store} (ok : s.Ok) {h : Head} (hh : h.Ok s.disks.length) (h1 : h.par = s.head.par) (h2 : h.size = s.head.size) (h3 : h.rows = s.head.rows) (d : Nat) {k : Disk} (hk : DiskOk k s.head.size s.head.rows) : (⟨h, s.disks.set d k, s.journal⟩ : Store).Ok := by
  refine ⟨by show h.Ok (s.disks.set d k).length; rw [List.length_set]; exact hh, fun x hx => ?_, fun i n e => ?_⟩
  · show DiskOk x h.size h.rows
    rw [h2, h3]
    rcases List.mem_or_eq_of_mem_set hx with hx | rfl
    · exact ok.disks x hx
    · exact hk
  · show NoteOk h (s.disks.set d k).length _ _ _
    rw [List.length_set]
    exact noteOk_h (ok.journal i n e) h1 h2 h3
theorem Lie.lose (h : Lie L N e t) (d : Nat) : Lie L N e (applyC t (.lose d)) :=
  h.less (ok_setJ h.ok h.ok.head rfl rfl rfl d (fun _ e => by cases e)) rfl rfl rfl rfl rfl rfl (by show (t.disks.set d none).length = _; rw [List.length_set]) fun i q => cell_set (ds := t.disks) (d := d) (k := none) fun _ e => by cases e
theorem Lie.spare (h : Lie L N e t) (d : Nat) : Lie L N e (applyC t (.spare d)) :=
  h.less (ok_setJ h.ok (less_ok h.ok.head) rfl rfl rfl d fresh_disk) rfl rfl rfl rfl rfl rfl (by show (t.disks.set d _).length = _; rw [List.length_set]) fun i q => cell_set (ds := t.disks) (d := d) (k := freshK t.head) fun bs e o ho => by
    unfold freshK at e
    cases e
    exact (List.mem_replicate.mp ho).2
theorem ok_badJ {s : Store} (ok : s.Ok) (d r : Nat) (o : Option Blk) (ho : ∀ b, o = some b → BlkOk' b s.head.size) : (⟨s.head, setD s.disks d r o, s.journal⟩ : Store).Ok := by
  refine ⟨by show s.head.Ok (setD s.disks d r o).length; rw [setD_len]; exact ok.head, setD_ok ok.disks ho, fun i n h => ?_⟩
  show NoteOk s.head (setD s.disks d r o).length _ _ _
  rw [setD_len]
  exact ok.journal i n h
theorem cell_bad (ds : List Disk) (d r i q : Nat) : cellD (setD ds d r none) i q = none ∨ cellD (setD ds d r none) i q = cellD ds i q := by
  by_cases h : i = d ∧ q = r
  · obtain ⟨rfl, rfl⟩ := h
    cases e : lenD ds i with
    | none =>
      right
      have e2 : ds.getD i none = none := by
        unfold lenD at e
        cases e3 : ds.getD i none with
        | none => rfl
        | some bs => rw [e3] at e; cases e
      unfold setD
      rw [e2]
    | some n =>
      by_cases hq : q < n
      · exact .inl (setD_eq e hq)
      · left
        have e2 := setD_lenD (ds := ds) (d := i) (r := q) (o := none) (i := i)
        rw [e] at e2
        unfold cellD
        unfold lenD at e2
        cases e3 : (setD ds i q none).getD i none with
        | none => rfl
        | some bs =>
          rw [e3] at e2
          have e2 : some bs.length = some n := e2
          cases e2
          show bs.getD q none = none
          rw [List.getD_eq_getElem?_getD, List.getElem?_eq_none (by omega)]
          rfl
  · exact .inr (setD_ne (by omega))
theorem Lie.bad (h : Lie L N e t) (d r : Nat) : Lie L N e (applyC t (.bad d r)) := by
  have e1 : applyC t (.bad d r) = ⟨t.head, setD t.disks d r none, t.journal⟩ := setCell_eq t d r none
  rw [e1]
  exact h.less (ok_badJ h.ok d r none fun b e => by cases e) rfl rfl rfl rfl rfl rfl setD_len fun i q => cell_bad t.disks d r i q
end Law
set_option maxHeartbeats 1000000
namespace Law
open PySem L2 HC PyProof.Rows
structure Bnd (L : Lay) (N : List BN) (e : JE) (t : Store) (most : Nat) : Prop where
  lost : lostC t ≤ most
  none : ∀ r, r < L.rows → noneN ((startS t N e).row r) ≤ most
variable {L : Lay} {N : List BN} {e : JE} {t : Store}
theorem Lie.clean (h : Lie L N e t) : Lie L [] .none (startS t N e) := by
  refine ⟨h.okS, Lie.jS, h.parS, h.sizeS, h.rowsS, h.manyS, .inl ⟨rfl, h.widthS, h.movedS⟩, h.len, h.form, fun q => absurd rfl q, fun r hr j hj => .inr ?_⟩
  have a := h.agree.cell r (by rw [h.rowsS]; exact hr) j (by rw [h.wideS]; exact hj)
  rw [h.wideS] at a
  exact a
theorem row_same {s u : Store} {r : Nat} (h1 : u.wide r = s.wide r) (h2 : ∀ j, j < s.wide r → u.cell ((r + j) % s.wide r) r = s.cell ((r + j) % s.wide r) r) : u.row r = s.row r := by
  unfold Store.row
  rw [h1]
  exact List.map_congr_left fun j hj => h2 j (List.mem_range.mp hj)
theorem start_clean {t : Store} (h : t.journal = []) : startS t [] .none = t := by
  obtain ⟨a, b, c⟩ := t
  have h : c = [] := h
  subst h
  rfl
theorem Bnd.clean {most : Nat} (h : Lie L N e t) (b : Bnd L N e t most) : Bnd L [] .none (startS t N e) most := by
  refine ⟨by rw [lostS]; exact b.lost, fun r hr => ?_⟩
  rw [start_clean Lie.jS]
  exact b.none r hr
theorem Lie.put {q : Nat × Nat} (h : Lie L N (some q) t) {A : List BN} (hA : ∀ x ∈ A, x ∈ N) {hd : Head} (e1 : hd.par = t.head.par) (e2 : hd.size = t.head.size) (e3 : hd.rows = t.head.rows) (ok : hd.Ok t.disks.length) : Lie L N (some q) ⟨hd, blkF t.disks A, t.journal⟩ := by
  refine ⟨⟨?_, ?_, fun i n k => ?_⟩, h.j, e1.trans h.par, e2.trans h.size, e3.trans h.rows, (blkF_len A _).trans h.many, .inr ?_, h.len, h.form, h.right, fun r hr j hj => ?_⟩
  · show hd.Ok (blkF t.disks A).length
    rw [blkF_len]
    exact ok
  · show ∀ k ∈ blkF t.disks A, DiskOk k hd.size hd.rows
    rw [e2, e3]
    refine blkF_ok _ _ h.ok.disks fun x hx => ?_
    rw [h.size]
    exact (h.notes (hA x hx)).2.2
  · show NoteOk hd (blkF t.disks A).length _ _ _
    rw [blkF_len]
    exact noteOk_h (h.ok.journal i n k) e1 e2 e3
  · rw [h.eq_lay]
  · by_cases q : ∃ x ∈ A, x.1 = (r + j) % L.wide r ∧ x.2.1 = r
    · obtain ⟨x, hx, a⟩ := q
      exact .inl ⟨by simp, x, hA x hx, a⟩
    · have : (⟨hd, blkF t.disks A, t.journal⟩ : Store).cell ((r + j) % L.wide r) r = t.cell ((r + j) % L.wide r) r := by
        rw [cell_D, cell_D]
        refine blkF_no _ _ fun x hx => ?_
        by_cases a : x.1 = (r + j) % L.wide r
        · right
          exact fun b => q ⟨x, hx, a, b.symm⟩
        · exact .inl fun b => a b.symm
      rw [this]
      exact h.cell r hr j hj
theorem Lie.putB {q : Nat × Nat} {most : Nat} (h : Lie L N (some q) t) (b : Bnd L N (some q) t most) {A : List BN} (hA : ∀ x ∈ A, x ∈ N) {hd : Head} (k : Lie L N (some q) ⟨hd, blkF t.disks A, t.journal⟩) : Bnd L N (some q) ⟨hd, blkF t.disks A, t.journal⟩ most := by
  refine ⟨?_, fun r hr => ?_⟩
  · have : lostC (⟨hd, blkF t.disks A, t.journal⟩ : Store) = lostC t := by
      unfold lostC
      rw [lost_map, lost_map]
      show ((blkF t.disks A).map Option.isNone |>.filter id).length = _
      rw [blkF_none]
    rw [this]
    exact b.lost
  · have : (startS ⟨hd, blkF t.disks A, t.journal⟩ N (some q)).row r = (startS t N (some q)).row r := by
      refine row_same (by rw [k.wideS, h.wideS]) fun j hj => ?_
      rw [h.wideS] at hj ⊢
      by_cases g : ∃ x ∈ N, x.1 = (r + j) % L.wide r ∧ x.2.1 = r
      · rw [k.noted (by simp) hr hj g, h.noted (by simp) hr hj g]
        have e : ((blkF t.disks A).getD ((r + j) % L.wide r) none).isSome = (t.disks.getD ((r + j) % L.wide r) none).isSome := by
          have := blkF_lenD (i := (r + j) % L.wide r) A t.disks
          unfold lenD at this
          have := congrArg Option.isSome this
          rw [Option.isSome_map, Option.isSome_map] at this
          exact this
        show (if ((blkF t.disks A).getD ((r + j) % L.wide r) none).isSome = true then _ else _) = _
        rw [e]
      · rw [k.other (fun a => g a.2), h.other (fun a => g a.2), cell_D, cell_D]
        refine blkF_no _ _ fun x hx => ?_
        by_cases a : x.1 = (r + j) % L.wide r
        · right
          exact fun b => g ⟨x, hA x hx, a, b.symm⟩
        · exact .inl fun b => a b.symm
    rw [this]
    exact b.none r hr
theorem Lie.stop {most : Nat} (h : Lie L N e t) (b : Bnd L N e t most) (c : Nat) : ∃ N' e', N'.length ≤ N.length ∧ Lie L N' e' (((startC N e).take c).foldl applyC t) ∧ Bnd L N' e' (((startC N e).take c).foldl applyC t) most := by
  by_cases hc : (startC N e).length ≤ c
  · rw [List.take_of_length_le hc, start_fold h.j]
    exact ⟨[], none, Nat.zero_le _, h.clean, b.clean h⟩
  cases e with
  | none =>
    have : c = 0 := by cases N <;> simp [startC] at hc <;> omega
    subst this
    exact ⟨N, none, Nat.le_refl _, h, b⟩
  | some q =>
    refine ⟨N, some q, Nat.le_refl _, ?_⟩
    have hl : (startC N (some q)).length = N.length + 2 := by simp [startC]
    by_cases h1 : c ≤ N.length
    · have e1 : ((startC N (some q)).take c).foldl applyC t = ⟨t.head, blkF t.disks (N.take c), t.journal⟩ := by
        show ((N.map chgB ++ [Chg.head q.1 q.2, Chg.clear]).take c).foldl applyC t = _
        rw [List.take_append_of_le_length (by rw [List.length_map]; exact h1), ← List.map_take]
        exact fold_blk _ t.head t.disks t.journal
      rw [e1]
      have k := h.put (A := N.take c) (fun x hx => List.mem_of_mem_take hx) (hd := t.head) rfl rfl rfl h.ok.head
      exact ⟨k, h.putB b (fun x hx => List.mem_of_mem_take hx) k⟩
    · have h2 : c = N.length + 1 := by omega
      subst h2
      have e1 : ((startC N (some q)).take (N.length + 1)).foldl applyC t = ⟨⟨t.head.par, t.head.size, t.head.rows, q.1, q.2, t.head.spares⟩, blkF t.disks N, t.journal⟩ := by
        show ((N.map chgB ++ [Chg.head q.1 q.2, Chg.clear]).take (N.length + 1)).foldl applyC t = _
        rw [List.take_append, List.take_of_length_le (by rw [List.length_map]; omega), List.length_map, Nat.add_sub_cancel_left, List.foldl_append]
        show applyC ((N.map chgB).foldl applyC ⟨t.head, t.disks, t.journal⟩) (.head q.1 q.2) = _
        rw [fold_blk]
        rfl
      rw [e1]
      have ok := headW h.ok.head (w := q.1) (m := q.2) (by rw [h.par, h.rows, h.many]; exact h.fin)
      have k := h.put (A := N) (fun x hx => hx) (hd := ⟨t.head.par, t.head.size, t.head.rows, q.1, q.2, t.head.spares⟩) rfl rfl rfl ok
      exact ⟨k, h.putB b (fun x hx => hx) k⟩
theorem Lie.cvs (h : Lie L N e t) : CVs t (startC N e) := by
  cases e with
  | none => cases N with
    | nil => trivial
    | cons x xs => exact ⟨trivial, trivial⟩
  | some q =>
    show CVs t (N.map chgB ++ [Chg.head q.1 q.2, Chg.clear])
    refine cvs_blocks (fun x hx => ?_) fun t => ⟨trivial, trivial, trivial⟩
    obtain ⟨a, b, c⟩ := h.notes hx
    have z2 := h.ok.head.size2
    rw [h.size] at z2
    exact ⟨by rw [h.many]; exact a, by rw [h.rows]; exact b, by rw [c.1]; exact z2⟩
theorem Lie.sc (h : Lie L N e t) : SC t (N.length + 1) := by
  have w1 := h.ok.head.width1
  have hm := h.ok.head.many
  refine ⟨by omega, by have := h.ok.many_le; omega, h.ok.head.rows1, h.ok.head.rows2, h.ok.head.size2, fun k hk bs e => ?_, ?_, fun x hx => ?_⟩
  · obtain ⟨h1, h2⟩ := h.ok.disks k hk bs e
    refine ⟨h1, fun o ho b eb => ?_⟩
    have := (h2 o ho b eb).1
    have := h.ok.head.size2
    omega
  · rw [h.j]
    have := jrn_len N e
    omega
  · obtain ⟨i, hi, ei⟩ := List.getElem_of_mem hx
    have k := h.ok.journal i x (by rw [List.getElem?_eq_getElem hi, ei])
    cases x with
    | block d r b =>
      have k : _ ∧ _ ∧ BlkOk' b t.head.size := k
      have := h.ok.head.size2
      show b.length ≤ 16
      rw [k.2.2.1]
      exact this
    | fin a w m => exact Nat.zero_le _
end Law
namespace Law
open PySem L2 HC PyProof.Rows
def layG (z : Szs) (flat : Blk) (n : Nat) : Lay := ⟨z.par, z.size, z.rows, z.width + 1, if n = z.rows then z.width + 1 else z.width, if n = z.rows then 0 else n, z.fsG flat n⟩
variable {z : Szs} {flat : Blk} {m : Nat} {t : Store}
theorem layG_wide {n r : Nat} (hn : n ≤ z.rows) (hr : r < z.rows) : (layG z flat n).wide r = if r < n then z.width + 1 else z.width := by
  unfold Lay.wide wideL layG
  by_cases h : n = z.rows
  · subst h
    show (if z.rows = z.rows then _ else _) + (if r < (if z.rows = z.rows then _ else _) then _ else _) = _
    rw [if_pos rfl, if_pos rfl, if_neg (Nat.not_lt_zero _), if_pos hr]
  · show (if n = z.rows then _ else _) + (if r < (if n = z.rows then _ else _) then _ else _) = _
    rw [if_neg h, if_neg h]
    by_cases q : r < n
    · rw [if_pos q, if_pos q]
    · rw [if_neg q, if_neg q, Nat.add_zero]
theorem InvG.lie (h : InvG z flat m t) (hm : m < z.rows) : Lie (layG z flat m) [] .none t := by
  have ew : ∀ r, t.wide r = (layG z flat m).wide r := fun r => by
    unfold Store.wide Lay.wide wideL layG
    have e1 : ¬ m = z.rows := by omega
    rw [h.width, h.moved]
    show _ = (if m = z.rows then _ else _) + (if r < (if m = z.rows then _ else _) then _ else _)
    rw [if_neg e1, if_neg e1]
  refine ⟨h.ok, h.j, h.par, h.size, h.rows, h.many, .inl ⟨rfl, ?_, ?_⟩, h.ag.len.trans h.rows, fun r hr => ?_, fun q => absurd rfl q, fun r hr j hj => .inr ?_⟩
  · show _ = if m = z.rows then _ else _
    rw [if_neg (by omega)]
    exact h.width
  · show _ = if m = z.rows then _ else _
    rw [if_neg (by omega)]
    exact h.moved
  · have := h.ag.row r (by rw [h.rows]; exact hr)
    rw [h.par, h.size, ew] at this
    exact this
  · have := h.ag.cell r (by rw [h.rows]; exact hr) j (by rw [ew]; exact hj)
    rw [ew] at this
    exact this
theorem InvG.bnd (h : InvG z flat m t) : Bnd (layG z flat m) [] .none t z.par := ⟨h.lost, fun r hr => by rw [start_clean h.j]; exact h.none r hr⟩
theorem Lie.inv {n : Nat} {N : List BN} {e : JE} (h : Lie (layG z flat n) N e t) (b : Bnd (layG z flat n) N e t z.par) (hn : n < z.rows) : InvG z flat n (startS t N e) := by
  refine ⟨h.okS, Lie.jS, h.parS, h.sizeS, h.rowsS, ?_, ?_, h.manyS, h.agree, by rw [lostS]; exact b.lost, b.none⟩
  · rw [h.widthS]
    show (if n = z.rows then _ else _) = _
    rw [if_neg (by omega)]
  · rw [h.movedS]
    show (if n = z.rows then _ else _) = _
    rw [if_neg (by omega)]
theorem EndG.lie {u : Store} (h : EndG z flat u) : Lie (layG z flat z.rows) [] .none u := by
  have ew : ∀ r, u.wide r = (layG z flat z.rows).wide r := fun r => by
    unfold Store.wide Lay.wide wideL layG
    rw [h.width, h.moved]
    show _ = (if z.rows = z.rows then _ else _) + (if r < (if z.rows = z.rows then _ else _) then _ else _)
    rw [if_pos rfl, if_pos rfl]
  refine ⟨h.ok, h.j, h.par, h.size, h.rows, h.many, .inl ⟨rfl, ?_, ?_⟩, h.ag.len.trans h.rows, fun r hr => ?_, fun q => absurd rfl q, fun r hr j hj => .inr ?_⟩
  · show _ = if z.rows = z.rows then _ else _
    rw [if_pos rfl]
    exact h.width
  · show _ = if z.rows = z.rows then _ else _
    rw [if_pos rfl]
    exact h.moved
  · have := h.ag.row r (by rw [h.rows]; exact hr)
    rw [h.par, h.size, ew] at this
    exact this
  · have := h.ag.cell r (by rw [h.rows]; exact hr) j (by rw [ew]; exact hj)
    rw [ew] at this
    exact this
end Law
set_option maxHeartbeats 1000000
namespace Law
open PySem L2 HC PyProof.Rows
def isFin : Chg → Bool
  | .note (.fin _ _ _) => true
  | _ => false
def endsC (cs : List Chg) : Nat := (cs.filter isFin).length
theorem ends_append (as bs : List Chg) : endsC (as ++ bs) = endsC as + endsC bs := by
  unfold endsC
  rw [List.filter_append, List.length_append]
theorem ends_notes (xs : List BN) : endsC (xs.map fun x => Chg.note (noteB' x)) = 0 := by
  unfold endsC
  rw [List.length_eq_zero_iff, List.filter_eq_nil_iff]
  intro c hc
  obtain ⟨x, _, rfl⟩ := List.mem_map.mp hc
  exact Bool.false_ne_true
theorem ends_start (N : List BN) (e : JE) (c : Nat) : endsC ((startC N e).take c) = 0 := by
  unfold endsC
  rw [List.length_eq_zero_iff, List.filter_eq_nil_iff]
  intro x hx
  have hx := List.mem_of_mem_take hx
  cases e with
  | none =>
    cases N with
    | nil => cases hx
    | cons y ys =>
      rw [List.mem_singleton.mp (show x ∈ [Chg.clear] from hx)]
      exact Bool.false_ne_true
  | some q =>
    rcases List.mem_append.mp (show x ∈ N.map chgB ++ [Chg.head q.1 q.2, Chg.clear] from hx) with h | h
    · obtain ⟨y, _, rfl⟩ := List.mem_map.mp h
      exact Bool.false_ne_true
    · simp only [List.mem_cons, List.not_mem_nil, or_false] at h
      rcases h with rfl | rfl <;> exact Bool.false_ne_true
variable {z : Szs} {flat : Blk} {m : Nat} {t : Store} {L : Lay} {N : List BN}
theorem Lie.noting (h : Lie L [] .none t) (hN : ∀ x ∈ N, x.1 < L.many ∧ x.2.1 < L.rows ∧ BlkOk' x.2.2 L.size) : Lie L N .none ⟨t.head, t.disks, N.map noteB'⟩ := by
  refine ⟨⟨h.ok.head, h.ok.disks, fun i n k => ?_⟩, ?_, h.par, h.size, h.rows, h.many, ?_, h.len, h.form, fun q => absurd rfl q, fun r hr j hj => ?_⟩
  · have k : (N.map noteB')[i]? = some n := k
    rw [List.getElem?_map] at k
    obtain ⟨x, hx, rfl⟩ := Option.map_eq_some_iff.mp k
    have := hN x (List.mem_of_getElem? hx)
    show x.1 < t.disks.length ∧ x.2.1 < t.head.rows ∧ BlkOk' x.2.2 t.head.size
    rw [h.many, h.rows, h.size]
    exact this
  · show N.map noteB' = jrn N .none
    unfold jrn endJ
    rw [List.append_nil]
  · rcases h.lay with ⟨_, a⟩ | a
    · exact .inl ⟨rfl, a⟩
    · cases a
  · rcases h.cell r hr j hj with ⟨a, _⟩ | a
    · exact absurd rfl a
    · exact .inr a
theorem comeN_len {F : List Blk} : (comeN t F).length ≤ F.length := by
  have h1 := List.length_filterMap_le (comeAt t F) (List.range F.length)
  rw [List.length_range] at h1
  exact h1
theorem comeC_eq (t : Store) (F : List Blk) : comeC t F = deedC (comeN t F) (moveW t) (moveM t) := by
  unfold comeC moveW moveM
  by_cases h : t.head.moved + 1 = t.head.rows
  · rw [if_pos h, if_pos h, if_pos h]
  · rw [if_neg h, if_neg h, if_neg h]
theorem layG_w {n : Nat} : (layG z flat n).w = if n = z.rows then z.width + 1 else z.width := rfl
theorem layG_m {n : Nat} : (layG z flat n).m = if n = z.rows then 0 else n := rfl
theorem InvG.noted (h : InvG z flat m t) (ok : z.Ok) (hb : ∀ y ∈ flat, y < 256) (hm : m < z.rows) :
    Lie (layG z flat (m + 1)) (comeN t (z.rowG flat m)) (some (moveW t, moveM t)) ⟨t.head, t.disks, jrn (comeN t (z.rowG flat m)) (some (moveW t, moveM t))⟩ ∧
    Bnd (layG z flat (m + 1)) (comeN t (z.rowG flat m)) (some (moveW t, moveM t)) ⟨t.head, t.disks, jrn (comeN t (z.rowG flat m)) (some (moveW t, moveM t))⟩ z.par := by
  have w1 := ok.w1
  have hw : WfR t.head.size (z.rowG flat m) := by rw [h.size]; exact rowG_wf hb m
  have hl : (z.rowG flat m).length = t.head.width + 1 := by rw [h.width]; exact rowG_len ok m
  obtain ⟨g1, g2, g3⟩ := moved_lt h.ok h.grows
  have eq : (moveW t, moveM t) = ((layG z flat (m + 1)).w, (layG z flat (m + 1)).m) := by
    unfold moveW moveM
    rw [layG_w, layG_m, h.moved, h.rows, h.width]
  have mok := move_ok h.ok h.grows hw
  have ew : ∀ r, (layG z flat (m + 1)).wide r = (moveS t (z.rowG flat m)).wide r := fun r => by
    unfold Lay.wide wideL Store.wide
    rw [← (Prod.mk.inj eq).1, ← (Prod.mk.inj eq).2]
    rfl
  have fs1 : (z.fsG flat (m + 1)) = (z.fsG flat m).set m (z.rowG flat m) := (fsG_set hm).symm
  have ag := move_agree h.ok h.grows h.ag (F := z.rowG flat m) (as := dataG z.size (z.k + 1) flat m (z.k + 1)) (by rw [h.par, h.size]; rfl) (by rw [dataG_len, h.par, h.width]; have ek : z.k = z.width - z.par := rfl; omega) (by rw [h.size]; exact dataG_wf hb _ _)
  rw [h.moved, ← fs1] at ag
  have wm : (layG z flat (m + 1)).wide m = z.width + 1 := by rw [layG_wide (by omega) hm, if_pos (Nat.lt_succ_self m)]
  have nt : ∀ x ∈ comeN t (z.rowG flat m), x.1 < t.disks.length ∧ x.2.1 = m ∧ BlkOk' x.2.2 t.head.size ∧ ∃ p, p < z.width + 1 ∧ x.1 = (m + p) % (z.width + 1) ∧ x.2.2 = (z.rowG flat m).getD p [] := fun x hx => by
    obtain ⟨p, hp, _, rfl⟩ := mem_come.mp hx
    refine ⟨?_, h.moved, hw _ (getD_mem hp), p, by rw [← h.width, ← hl]; exact hp, ?_, rfl⟩
    · show (t.head.moved + p) % (t.head.width + 1) < t.disks.length
      rw [g1]
      exact Nat.mod_lt _ (Nat.succ_pos _)
    · show (t.head.moved + p) % (t.head.width + 1) = _
      rw [h.moved, h.width]
  have li : Lie (layG z flat (m + 1)) (comeN t (z.rowG flat m)) (some (moveW t, moveM t)) ⟨t.head, t.disks, jrn (comeN t (z.rowG flat m)) (some (moveW t, moveM t))⟩ := by
    refine ⟨⟨h.ok.head, h.ok.disks, fun i n k => ?_⟩, rfl, h.par, h.size, h.rows, h.many, .inr (congrArg some eq), ag.len.trans h.rows, fun r hr => ?_, fun _ x hx => ?_, fun r hr j hj => ?_⟩
    · have k : ((comeN t (z.rowG flat m)).map noteB' ++ [Note.fin (comeN t (z.rowG flat m)).length (moveW t) (moveM t)])[i]? = some n := k
      show NoteOk t.head t.disks.length i (decide (i + 1 = ((comeN t (z.rowG flat m)).map noteB' ++ [Note.fin (comeN t (z.rowG flat m)).length (moveW t) (moveM t)]).length)) n
      by_cases q : i < (comeN t (z.rowG flat m)).length
      · rw [List.getElem?_append_left (by rw [List.length_map]; exact q), List.getElem?_map] at k
        obtain ⟨x, hx, rfl⟩ := Option.map_eq_some_iff.mp k
        obtain ⟨a, b, c, _⟩ := nt x (List.mem_of_getElem? hx)
        exact ⟨a, by rw [b, h.rows]; exact hm, c⟩
      · rw [List.getElem?_append_right (by rw [List.length_map]; omega), List.length_map] at k
        have : i - (comeN t (z.rowG flat m)).length = 0 := by
          have := (List.getElem?_eq_some_iff.mp k).1
          simp at this
          omega
        rw [this] at k
        have k : some (Note.fin (comeN t (z.rowG flat m)).length (moveW t) (moveM t)) = some n := k
        cases k
        have mh := mok.head
        have ml : (moveS t (z.rowG flat m)).disks.length = t.disks.length := blkF_len _ _
        rw [ml] at mh
        refine ⟨decide_eq_true (by simp; omega), by omega, mh.width1, mh.width2, mh.many⟩
    · have := ag.row r (by show r < t.head.rows; rw [h.rows]; exact hr)
      rw [ew]
      have e1 : (moveS t (z.rowG flat m)).head.par = z.par := h.par
      have e2 : (moveS t (z.rowG flat m)).head.size = z.size := h.size
      rw [e1, e2] at this
      exact this
    · obtain ⟨_, b, _, p, hp, a1, a2⟩ := nt x hx
      rw [b, wm]
      refine ⟨p, hp, a1, ?_⟩
      rw [a2]
      show _ = ((z.fsG flat (m + 1)).getD m []).getD p []
      rw [fsG_get hm, if_pos (Nat.lt_succ_self m)]
    · by_cases q : r = m
      · subst q
        rw [wm] at hj ⊢
        cases hs : t.disks.getD ((r + j) % (z.width + 1)) Option.none with
        | none =>
          right; left
          unfold Store.cell
          rw [hs]
        | some bs =>
          left
          refine ⟨by simp, _, mem_come.mpr ⟨j, by rw [hl, h.width]; exact hj, by rw [h.moved, h.width, hs]; rfl, rfl⟩, ?_, h.moved⟩
          show (t.head.moved + j) % (t.head.width + 1) = _
          rw [h.moved, h.width]
      · right
        have := ag.cell r (by show r < t.head.rows; rw [h.rows]; exact hr) j (by rw [← ew]; exact hj)
        rw [← ew] at this
        have e1 : (moveS t (z.rowG flat m)).cell ((r + j) % (layG z flat (m + 1)).wide r) r = t.cell ((r + j) % (layG z flat (m + 1)).wide r) r := move_cell_no (by rw [h.moved]; exact q)
        rw [e1] at this
        exact this
  refine ⟨li, h.lost, fun r hr => ?_⟩
  have := move_none h.ok h.grows hw hl (most := z.par) h.lost (fun r hr => h.none r (by rw [← h.rows]; exact hr)) (r := r) (by rw [h.rows]; exact hr)
  exact this
theorem InvG.mv (h : InvG z flat m t) (ok : z.Ok) (hb : ∀ y ∈ flat, y < 256) (hm : m < z.rows) : startS ⟨t.head, t.disks, jrn (comeN t (z.rowG flat m)) (some (moveW t, moveM t))⟩ (comeN t (z.rowG flat m)) (some (moveW t, moveM t)) = moveS t (z.rowG flat m) := rfl
theorem InvG.stop (h : InvG z flat m t) (ok : z.Ok) (hb : ∀ y ∈ flat, y < 256) (hm : m < z.rows) (c : Nat) : ∃ n N e, m ≤ n ∧ n ≤ m + 1 ∧ N.length ≤ 11 ∧ Lie (layG z flat n) N e (((comeC t (z.rowG flat m)).take c).foldl applyC t) ∧ Bnd (layG z flat n) N e (((comeC t (z.rowG flat m)).take c).foldl applyC t) z.par ∧ endsC ((comeC t (z.rowG flat m)).take c) = n - m := by
  have w2 := ok.w2
  have hl : (z.rowG flat m).length = z.width + 1 := rowG_len ok m
  have nl := comeN_len (t := t) (F := z.rowG flat m)
  have hj := h.j
  obtain ⟨li, bd⟩ := h.noted ok hb hm
  rw [comeC_eq]
  generalize hN : comeN t (z.rowG flat m) = N at *
  have en : deedC N (moveW t) (moveM t) = (N.map fun x => Chg.note (noteB' x)) ++ (Chg.note (.fin N.length (moveW t) (moveM t)) :: startC N (some (moveW t, moveM t))) := by
    unfold deedC
    rw [List.append_assoc]
    rfl
  rw [en]
  have lm : (N.map fun x => Chg.note (noteB' x)).length = N.length := List.length_map _
  have ef : ∀ (xs : List BN), (xs.map fun x => Chg.note (noteB' x)).foldl applyC t = ⟨t.head, t.disks, xs.map noteB'⟩ := fun xs => by
    have e : xs.map (fun x => Chg.note (noteB' x)) = (xs.map noteB').map Chg.note := by rw [List.map_map]; rfl
    rw [e, fold_notes, hj, List.nil_append]
  by_cases hc : c ≤ N.length
  · rw [List.take_append_of_le_length (by rw [lm]; exact hc), ← List.map_take, ef]
    refine ⟨m, N.take c, .none, Nat.le_refl _, by omega, by rw [List.length_take]; omega, (h.lie hm).noting fun x hx => ?_, ⟨h.lost, fun r hr => h.none r hr⟩, by rw [ends_notes]; omega⟩
    have := li.notes (List.mem_of_mem_take hx)
    exact this
  · obtain ⟨d, rfl⟩ : ∃ d, c = N.length + (1 + d) := ⟨c - N.length - 1, by omega⟩
    have et : ((N.map fun x => Chg.note (noteB' x)) ++ (Chg.note (.fin N.length (moveW t) (moveM t)) :: startC N (some (moveW t, moveM t)))).take (N.length + (1 + d)) = (N.map fun x => Chg.note (noteB' x)) ++ (Chg.note (.fin N.length (moveW t) (moveM t)) :: (startC N (some (moveW t, moveM t))).take d) := by
      rw [List.take_append, List.take_of_length_le (by rw [lm]; omega), lm, Nat.add_sub_cancel_left, Nat.add_comm 1 d, List.take_succ_cons]
    rw [et, List.foldl_append, ef, List.foldl_cons]
    show ∃ n N' e, _ ∧ _ ∧ _ ∧ Lie _ N' e (((startC N (some (moveW t, moveM t))).take d).foldl applyC ⟨t.head, t.disks, jrn N (some (moveW t, moveM t))⟩) ∧ Bnd _ N' e (((startC N (some (moveW t, moveM t))).take d).foldl applyC ⟨t.head, t.disks, jrn N (some (moveW t, moveM t))⟩) _ ∧ _
    obtain ⟨N', e', l', li', bd'⟩ := li.stop bd d
    refine ⟨m + 1, N', e', by omega, Nat.le_refl _, by omega, li', bd', ?_⟩
    rw [ends_append, ends_notes]
    have := ends_start N (some (moveW t, moveM t)) d
    unfold endsC at this ⊢
    rw [List.filter_cons]
    show 0 + (Chg.note (.fin N.length (moveW t) (moveM t)) :: ((startC N (some (moveW t, moveM t))).take d).filter isFin).length = _
    rw [List.length_cons, this]
    omega
end Law
namespace Law
open PySem L2 HC PyProof.Rows
structure WrR (p n : Nat) (ds : List Blk) (r : Row) (G : List Nat) : Prop where
  len : r.length = ds.length + p
  nd : G.Nodup
  lt : ∀ g ∈ G, g < r.length
  bad : ∀ g ∈ G, ∃ C, r.getD g none = some C ∧ C ≠ (ds ++ parB p n ds).getD g [] ∧ BlkOk' C n
  rest : ∀ i, i ∉ G → ∀ b, r.getD i none = some b → (ds ++ parB p n ds).getD i [] = b
def hollow (r : Row) (G : List Nat) : Row := G.foldl (fun r g => r.set g none) r
theorem hollow_len : ∀ (G : List Nat) (r : Row), (hollow r G).length = r.length
  | [], _ => rfl
  | g :: G, r => (hollow_len G (r.set g none)).trans (List.length_set)
theorem hollow_get : ∀ (G : List Nat) (r : Row), (∀ g ∈ G, g < r.length) → ∀ i, (hollow r G).getD i none = if i ∈ G then none else r.getD i none
  | [], _, _, _ => by simp [hollow]
  | g :: G, r, h, i => by
    have e := hollow_get G (r.set g none) (fun x hx => by rw [List.length_set]; exact h x (List.mem_cons_of_mem _ hx)) i
    show (hollow (r.set g none) G).getD i none = _
    rw [e, getD_setO (h g List.mem_cons_self)]
    by_cases h1 : i ∈ G
    · rw [if_pos h1, if_pos (List.mem_cons_of_mem _ h1)]
    · rw [if_neg h1]
      by_cases h2 : g = i
      · rw [if_pos h2, if_pos (by rw [h2]; exact List.mem_cons_self)]
      · rw [if_neg h2, if_neg (fun q => by rcases List.mem_cons.mp q with q | q; exact h2 q.symm; exact h1 q)]
theorem hollow_known : ∀ (G : List Nat) (r : Row), (known r).length ≤ (known (hollow r G)).length + G.length
  | [], _ => Nat.le_refl _
  | g :: G, r => by
    have h1 := known_set r g
    have h2 := hollow_known G (r.set g none)
    show _ ≤ (known (hollow (r.set g none) G)).length + (G.length + 1)
    omega
section
variable {p n : Nat} {ds : List Blk} {r : Row} {G : List Nat}
theorem WrR.hides (h : WrR p n ds r G) : Hides p n ds (hollow r G) := ⟨(hollow_len G r).trans h.len, fun i b e => by
  rw [hollow_get G r h.lt] at e
  by_cases q : i ∈ G
  · rw [if_pos q] at e; cases e
  · rw [if_neg q] at e; exact h.rest i q b e⟩
theorem WrR.wf (h : WrR p n ds r G) (p1 : 1 ≤ p) (p2 : p ≤ 2) (hw : WfR n ds) : WfO n r := fun o ho b e => by
  obtain ⟨i, hi, ei⟩ := List.getElem_of_mem ho
  have e' : r.getD i none = some b := by rw [List.getD_eq_getElem?_getD, List.getElem?_eq_getElem hi, ei, e]; rfl
  by_cases q : i ∈ G
  · obtain ⟨C, h1, _, h3⟩ := h.bad i q
    rw [e'] at h1; cases h1; exact h3
  · rw [← h.rest i q b e']
    have hl : i < (ds ++ parB p n ds).length := by rw [List.length_append, parB_len p1 p2, ← h.len]; exact hi
    rw [List.getD_eq_getElem?_getD, List.getElem?_eq_getElem hl]
    rcases List.mem_append.mp (List.getElem_mem hl) with z | z
    · exact hw _ z
    · exact parB_wf hw _ z
theorem WrR.never (h : WrR p n ds r G) (p1 : 1 ≤ p) (p2 : p ≤ 2) (hw : WfR n ds) (hl : ds.length ≤ 255) (g0 : G ≠ []) (hm : noneN r + G.length ≤ p) : holdsB p n r = false := by
  rw [Bool.eq_false_iff]
  intro hh
  have hk := noneN_known r
  have hkp : 0 < G.length := List.length_pos_iff.mpr g0
  obtain ⟨ew, el, eh⟩ := holds_inv p1 p2 (by have := h.len; omega) (h.wf p1 p2 hw) (by have := h.len; omega) hh
  have hk2 := hollow_known G r
  have he : Hides p n (dataTold p n r) (hollow r G) := ⟨(hollow_len G r).trans eh.1, fun i b e => by
    rw [hollow_get G r h.lt] at e
    by_cases q : i ∈ G
    · rw [if_pos q] at e; cases e
    · rw [if_neg q] at e; exact eh.2 i b e⟩
  have eq := hides_one p1 p2 hw ew hl h.hides he (by have := h.len; omega)
  obtain ⟨g, G', rfl⟩ := List.exists_cons_of_ne_nil g0
  obtain ⟨C, h1, h2, _⟩ := h.bad g List.mem_cons_self
  have := eh.2 g C h1
  rw [← eq] at this
  exact h2 this.symm
theorem WrR.one {g : Nat} (h : WrR p n ds r [g]) (p1 : 1 ≤ p) (p2 : p ≤ 2) (h0 : noneN r = 0) : ∃ C, BlkOk' C n ∧ (ds ++ parB p n ds).getD g [] ≠ C ∧ g < ds.length + p ∧ r = wrongR p n g ds C := by
  obtain ⟨C, h1, h2, h3⟩ := h.bad g List.mem_cons_self
  have hg : g < r.length := h.lt g List.mem_cons_self
  refine ⟨C, h3, h2.symm, by rw [← h.len]; exact hg, ?_⟩
  have wl := wrong_len (g := g) (b := C) (n := n) (ds := ds) p1 p2
  refine List.ext_getElem (by rw [wl]; exact h.len) fun i a1 a2 => ?_
  have c2 : (wrongR p n g ds C).getD i none = (wrongR p n g ds C)[i] := by rw [List.getD_eq_getElem?_getD, List.getElem?_eq_getElem a2]; rfl
  have c1 : r.getD i none = r[i] := by rw [List.getD_eq_getElem?_getD, List.getElem?_eq_getElem a1]; rfl
  rw [← c1, ← c2]
  unfold wrongR
  have rl := row_len (n := n) (ds := ds) p1 p2
  rw [getD_setO (by rw [rl, ← h.len]; exact hg)]
  by_cases q : g = i
  · rw [if_pos q, ← q]; exact h1
  · rw [if_neg q]
    have hn := none_zero h0 _ (List.getElem_mem a1)
    obtain ⟨b, hb⟩ := Option.ne_none_iff_exists'.mp hn
    rw [c1, hb]
    have := h.rest i (fun z => q (List.mem_singleton.mp z).symm) b (by rw [c1, hb])
    rw [rowOf_at (by rw [List.length_append, parB_len p1 p2, ← h.len]; exact a1), this]
end
end Law
namespace Law
open PySem L2 HC PyProof.Rows
def plW (w r d : Nat) : Nat := (d + (w - r % w)) % w
theorem plW_lt {w r d : Nat} (h : d < w) : plW w r d < w := Nat.mod_lt _ (by omega)
theorem plW_at {w r d : Nat} (h : d < w) : (r + plW w r d) % w = d := by
  have hr : r % w < w := Nat.mod_lt _ (by omega)
  have e : (r + (d + (w - r % w))) = d + w * (r / w + 1) := by
    have := Nat.div_add_mod r w
    rw [Nat.mul_add, Nat.mul_one]
    omega
  unfold plW
  rw [Nat.add_mod, Nat.mod_mod, ← Nat.add_mod, e, Nat.add_mul_mod_self_left]
  exact Nat.mod_eq_of_lt h
theorem Mar.wide {s t : Store} {row : Nat} {W X : List Nat} (h : Mar s t row W X) (r : Nat) : t.wide r = s.wide r := by unfold Store.wide; rw [h.head]
theorem Mar.other {s t : Store} {row r : Nat} {W X : List Nat} (h : Mar s t row W X) (hr : r ≠ row) : t.row r = s.row r := by
  unfold Store.row
  rw [h.wide]
  exact List.map_congr_left fun j _ => h.rest _ _ hr
theorem Mar.row {s t : Store} {row : Nat} {W X : List Nat} {as : List Blk} (h : Mar s t row W X) (ok : s.Ok) (hl : as.length + s.head.par = s.wide row) (hw : WfR s.head.size as) (hd : s.disks.length = s.wide row) (wd : W.Nodup) (hW : ∀ i ∈ W, i < s.disks.length)
    (full : ∀ j, j < s.wide row → s.cell ((row + j) % s.wide row) row = some ((as ++ parB s.head.par s.head.size as).getD j [])) :
    WrR s.head.par s.head.size as (t.row row) (W.map (plW (s.wide row) row)) ∧ (W.map (plW (s.wide row) row)).map (fun g => (row + g) % s.wide row) = W := by
  have rl : (t.row row).length = s.wide row := Store.row_len.trans (h.wide row)
  have get : ∀ j, j < s.wide row → (t.row row).getD j none = t.cell ((row + j) % s.wide row) row := fun j hj => by
    rw [row_get (by rw [h.wide]; exact hj), h.wide]
  refine ⟨⟨rl.trans hl.symm, ?_, fun g hg => ?_, fun g hg => ?_, fun i hi b e => ?_⟩, ?_⟩
  · exact List.pairwise_map.mpr (wd.imp_of_mem fun {a b} ha hb ne e => ne (by
      rw [← plW_at (r := row) (show a < s.wide row by rw [← hd]; exact hW a ha), ← plW_at (r := row) (show b < s.wide row by rw [← hd]; exact hW b hb), e]))
  · obtain ⟨d, hd', rfl⟩ := List.mem_map.mp hg
    rw [rl]
    exact plW_lt (by rw [← hd]; exact hW d hd')
  · obtain ⟨d, hd', rfl⟩ := List.mem_map.mp hg
    have hdw : d < s.wide row := by rw [← hd]; exact hW d hd'
    obtain ⟨B, C, h1, h2, h3, h4⟩ := h.wrong d hd'
    have hf := full _ (plW_lt (r := row) hdw)
    rw [plW_at hdw, h1] at hf
    refine ⟨C, by rw [get _ (plW_lt hdw), plW_at hdw]; exact h2, fun e => h3 (by rw [e]; exact (Option.some.inj hf).symm), h4⟩
  · have hil : i < s.wide row := by rw [← rl]; exact (getD_some e).1
    rw [get i hil] at e
    have hdW : (row + i) % s.wide row ∉ W := fun q => hi (by
      have hdw : (row + i) % s.wide row < s.wide row := Nat.lt_of_lt_of_eq (hW _ q) hd
      have := mod_inj (r := row) (plW_lt hdw) hil (plW_at hdw)
      rw [← this]
      exact List.mem_map.mpr ⟨_, q, rfl⟩)
    by_cases hX : (row + i) % s.wide row ∈ X
    · rw [h.gone _ hdW hX] at e; cases e
    · rw [h.same _ hdW hX, full i hil] at e
      exact Option.some.inj e
  · rw [List.map_map]
    conv => rhs; rw [← List.map_id W]
    refine List.map_congr_left fun d hd' => ?_
    exact plW_at (by rw [← hd]; exact hW d hd')
structure MarS (s t : Store) (fs : List (List Blk)) (Ws : List (List Nat)) (i : Nat) : Prop where
  ok : t.Ok
  j : t.journal = []
  head : t.head = s.head
  len : t.disks.length = s.disks.length
  wl : Ws.length = i
  done : ∀ r, r < i → ∃ as G, fs.getD r [] = as ++ parB s.head.par s.head.size as ∧ WfR s.head.size as ∧ Ws.getD r [] = G.map (fun g => (r + g) % s.wide r) ∧ G.length ≤ 2 ∧ WrR s.head.par s.head.size as (t.row r) G
  rest : ∀ r, i ≤ r → ∀ d, t.cell d r = s.cell d r
theorem MarS.zero {s : Store} {fs : List (List Blk)} (ok : s.Ok) (hj : s.journal = []) : MarS s s fs [] 0 := ⟨ok, hj, rfl, rfl, rfl, fun r h => by omega, fun _ _ _ => rfl⟩
theorem MarS.step {s t t' : Store} {fs : List (List Blk)} {Ws : List (List Nat)} {i : Nat} {W X : List Nat} (h : MarS s t fs Ws i) (wh : Whole s fs) (hm : s.head.moved = 0) (hd : s.disks.length = s.head.width) (hi : i < s.head.rows) (mr : Mar t t' i W X) (wd : W.Nodup) (w2 : W.length ≤ 2) (hW : ∀ d ∈ W, d < t.disks.length) : MarS s t' fs (Ws ++ [W]) (i + 1) := by
  have ew : ∀ r, s.wide r = s.head.width := fun r => by unfold Store.wide; rw [hm, if_neg (by omega)]; rfl
  have tw : ∀ r, t.wide r = s.wide r := fun r => by unfold Store.wide; rw [h.head]
  obtain ⟨as, e, l, w⟩ := wh.agree.row i hi
  have hr := mr.row (as := as) h.ok (by rw [tw, h.head]; exact l) (by rw [h.head]; exact w) (by rw [tw, ew, h.len]; exact hd) wd hW (fun j hj => by
    rw [tw] at hj ⊢
    rw [h.rest i (Nat.le_refl _), wh.full i hi j hj, e, h.head])
  rw [tw, h.head] at hr
  refine ⟨mr.ok, mr.j, mr.head.trans h.head, mr.len.trans h.len, by rw [List.length_append, h.wl]; rfl, fun r hr' => ?_, fun r hr' d => ?_⟩
  · by_cases q : r = i
    · subst q
      refine ⟨as, _, e, w, ?_, ?_, hr.1⟩
      · rw [hr.2, List.getD_eq_getElem?_getD, List.getElem?_append_right (by rw [h.wl]; exact Nat.le_refl _), h.wl, Nat.sub_self]
        rfl
      · rw [List.length_map]; exact w2
    · obtain ⟨as', G, a1, a2, a3, a4, a5⟩ := h.done r (by omega)
      refine ⟨as', G, a1, a2, ?_, a4, by rw [mr.other q]; exact a5⟩
      rw [List.getD_eq_getElem?_getD, List.getElem?_append_left (by rw [h.wl]; omega), ← List.getD_eq_getElem?_getD]
      exact a3
  · rw [mr.rest d r (by omega)]
    exact h.rest r (by omega) d
end Law
namespace Law
open PySem L2 HC PyProof.Rows
structure WrongAt (p n : Nat) (r : Row) (j : Nat) : Prop where
  v : verdictD p n r = .tup [.str ("wrong" : Str), dn j]
  p2 : p = 2
  lt : j < r.length
  nn : noneN r = 0
  holds : holdsB 2 n (r.set j none) = true
theorem right_holds {n : Nat} {r : Row} {j : Nat} (hw : WfO n r) (hl : r.length ≤ 100) (h2 : 2 < r.length) (h : WrongAt 2 n r j) : verdictD 2 n (r.set j (some ((filledR 2 n (r.set j none)).getD j []))) = .tup [.str ("holds" : Str)] := by
  have rl : (r.set j (none : Option Blk)).length = r.length := List.length_set
  have nk := noneN_known r
  have kn : (known r).length ≤ (known (r.set j none)).length + 1 := by
    have := hollow_known [j] r
    exact this
  have z := h.nn
  obtain ⟨e1, e2, e3⟩ := holds_inv (p := 2) (by decide) (by decide) (by omega) (set_wfo hw) (by omega) h.holds
  have hh : Hides 2 n (dataTold 2 n (r.set j none)) (r.set j (some ((filledR 2 n (r.set j none)).getD j []))) := by
    refine ⟨by rw [List.length_set, e2, rl]; omega, fun i b hb => ?_⟩
    by_cases q : j = i
    · subst q
      rw [getD_setO h.lt, if_pos rfl] at hb
      exact Option.some.inj hb
    · rw [getD_setO h.lt, if_neg q] at hb
      exact e3.2 i b (by rw [getD_setO h.lt, if_neg q]; exact hb)
  refine v_holds (by decide) (by decide) e1 (by omega) hh ?_
  have k2 := known_set1 r j ((filledR 2 n (r.set j none)).getD j [])
  omega
end Law
namespace Law
open PySem L2 HC PyProof.Rows
structure AgreeR (s : Store) (r : Nat) (F : List Blk) : Prop where
  code : ∃ as : List Blk, F = as ++ parB s.head.par s.head.size as ∧ as.length + s.head.par = s.wide r ∧ WfR s.head.size as
  cell : ∀ j, j < s.wide r → s.cell ((r + j) % s.wide r) r = none ∨ s.cell ((r + j) % s.wide r) r = some (F.getD j [])
  kn : noneN (s.row r) ≤ s.head.par
variable {s t : Store} {r : Nat} {F : List Blk}
theorem AgreeR.len (a : AgreeR s r F) (ok : s.Ok) : F.length = s.wide r := by
  obtain ⟨as, e, l, _⟩ := a.code
  rw [e, List.length_append, parB_len ok.head.par1 ok.head.par2, l]
theorem AgreeR.wf (a : AgreeR s r F) : WfR s.head.size F := by
  obtain ⟨as, e, l, w⟩ := a.code
  rw [e]
  intro b hb
  rcases List.mem_append.mp hb with h | h
  · exact w b h
  · exact parB_wf w b h
theorem AgreeR.known (a : AgreeR s r F) (ok : s.Ok) : s.wide r - s.head.par ≤ (Law.known (s.row r)).length := by
  have hk := noneN_known (s.row r)
  have rl : (s.row r).length = s.wide r := Store.row_len
  have := a.kn
  omega
theorem AgreeR.told (a : AgreeR s r F) (ok : s.Ok) : dataTold s.head.par s.head.size (s.row r) ++ parB s.head.par s.head.size (dataTold s.head.par s.head.size (s.row r)) = F := by
  obtain ⟨as, e, l, w⟩ := a.code
  have p1 := ok.head.par1
  have p2 := ok.head.par2
  have wt := ok.wide_ten r
  have rl : (s.row r).length = s.wide r := Store.row_len
  have hk := noneN_known (s.row r)
  have hn := a.kn
  have hd : Hides s.head.par s.head.size as (s.row r) := by
    refine ⟨by rw [rl, ← l], fun i b hb => ?_⟩
    have hi : i < s.wide r := by
      by_cases q : i < s.wide r
      · exact q
      · rw [List.getD_eq_getElem?_getD, List.getElem?_eq_none (by omega)] at hb
        cases hb
    rw [row_get hi] at hb
    rcases a.cell i hi with h | h
    · rw [h] at hb; cases hb
    · rw [h] at hb
      rw [← e]
      cases hb
      rfl
  rw [dataTold_code p1 p2 w (by omega) hd (by omega), e]
theorem Agree.at_ {fs : List (List Blk)} (a : Agree s fs) (hr : r < s.head.rows) (hn : noneN (s.row r) ≤ s.head.par) : AgreeR s r (fs.getD r []) := ⟨a.row r hr, a.cell r hr, hn⟩
open Classical in
noncomputable def mendJ (p n : Nat) (r : Row) : Option (Option Nat) := if verdictD p n r = .tup [.str ("holds" : Str)] then some none else if h : ∃ j, WrongAt p n r j then some (some (choose h)) else none
theorem mendJ_holds {p n : Nat} {r : Row} (h : verdictD p n r = .tup [.str ("holds" : Str)]) : mendJ p n r = some none := if_pos h
structure RowF (s : Store) (r : Nat) (F : List Blk) (o : List BN) : Prop where
  code : ∃ as : List Blk, F = as ++ parB s.head.par s.head.size as ∧ as.length + s.head.par = s.wide r ∧ WfR s.head.size as
  kn : noneN (s.row r) < s.head.par
  how : (o = [] ∧ ∀ j, j < s.wide r → s.cell ((r + j) % s.wide r) r = none ∨ s.cell ((r + j) % s.wide r) r = some (F.getD j [])) ∨
    ∃ g c, g < s.wide r ∧ o = [((r + g) % s.wide r, r, F.getD g [])] ∧ s.cell ((r + g) % s.wide r) r = some c ∧ ∀ j, j < s.wide r → j ≠ g → s.cell ((r + j) % s.wide r) r = none ∨ s.cell ((r + j) % s.wide r) r = some (F.getD j [])
theorem RowF.wf {o : List BN} (a : RowF s r F o) : WfR s.head.size F := by
  obtain ⟨as, e, l, w⟩ := a.code
  rw [e]
  intro b hb
  rcases List.mem_append.mp hb with h | h
  · exact w b h
  · exact parB_wf w b h
theorem RowF.len {o : List BN} (a : RowF s r F o) (ok : s.Ok) : F.length = s.wide r := by
  obtain ⟨as, e, l, _⟩ := a.code
  rw [e, List.length_append, parB_len ok.head.par1 ok.head.par2, l]
def endB (z a m : Nat) : Nat := (a + m - 1) / z + 1
def pieceB (z a m : Nat) (f : Nat → Blk) : Blk := if m = 0 then [] else (((List.range (endB z a m - a / z)).flatMap fun i => f (a / z + i)).drop (a % z)).take m
theorem flat_cut (z : Nat) (flat : Blk) (a : Nat) : ∀ n, ((List.range n).flatMap fun i => cutB z flat (a + i)) = (flat.drop (a * z)).take (n * z)
  | 0 => by simp
  | n + 1 => by
    rw [List.range_succ, List.flatMap_append, flat_cut z flat a n]
    unfold cutB
    simp only [List.flatMap_cons, List.flatMap_nil, List.append_nil]
    rw [Nat.add_mul n 1 z, Nat.one_mul, List.take_add, List.drop_drop, Nat.add_mul]
theorem piece_cut {z : Nat} (z1 : 1 ≤ z) (a m : Nat) (flat : Blk) : pieceB z a m (cutB z flat) = (flat.drop a).take m := by
  unfold pieceB
  by_cases m0 : m = 0
  · rw [if_pos m0, m0, List.take_zero]
  · rw [if_neg m0, flat_cut, List.drop_take, List.drop_drop, List.take_take]
    have e1 : a / z * z + a % z = a := by rw [Nat.mul_comm]; exact Nat.div_add_mod a z
    rw [e1]
    congr 1
    unfold endB
    have h1 : a / z ≤ (a + m - 1) / z := Nat.div_le_div_right (by omega)
    have h2 := Nat.div_add_mod (a + m - 1) z
    have h3 := Nat.mod_lt (a + m - 1) z1
    have h4 : ((a + m - 1) / z + 1 - a / z) * z = (a + m - 1) / z * z + z - a / z * z := by
      rw [Nat.sub_mul, Nat.add_mul, Nat.one_mul]
    rw [h4]
    rw [Nat.mul_comm] at h2
    have h5 : a / z * z ≤ (a + m - 1) / z * z := Nat.mul_le_mul_right _ h1
    omega
theorem piece_congr {z a m : Nat} {f g : Nat → Blk} (h : ∀ b, a / z ≤ b → b < endB z a m → f b = g b) : pieceB z a m f = pieceB z a m g := by
  unfold pieceB
  by_cases m0 : m = 0
  · rw [if_pos m0, if_pos m0]
  · rw [if_neg m0, if_neg m0]
    congr 2
    have : ∀ n, n ≤ endB z a m - a / z → ((List.range n).flatMap fun i => f (a / z + i)) = (List.range n).flatMap fun i => g (a / z + i) := fun n => by
      induction n with
      | zero => intro _; rfl
      | succ n ih =>
        intro hn
        rw [List.range_succ, List.flatMap_append, List.flatMap_append, ih (by omega)]
        congr 1
        simp only [List.flatMap_cons, List.flatMap_nil, List.append_nil]
        exact h _ (by omega) (by omega)
    exact this _ (Nat.le_refl _)
theorem end_kept {z a m k : Nat} (z1 : 1 ≤ z) (hm : 0 < m) (h : a + m ≤ k * z) : endB z a m ≤ k := by
  unfold endB
  have : (a + m - 1) / z < k := (Nat.div_lt_iff_lt_mul (by omega)).mpr (by omega)
  omega
end Law
namespace Law
open PySem L2 HC PyProof.Rows
end Law
set_option maxHeartbeats 1000000
namespace Law
open PySem L2 HC PyProof.Rows
end Law
set_option maxHeartbeats 1000000
namespace Law
open PySem L2 HC PyProof.Rows
theorem gd_append (x y : Blk) (i : Nat) : (x ++ y).getD i 0 = if i < x.length then x.getD i 0 else y.getD (i - x.length) 0 := by
  rw [List.getD_eq_getElem?_getD, List.getElem?_append]
  split
  · rw [List.getD_eq_getElem?_getD]
  · rw [List.getD_eq_getElem?_getD]
theorem gd_take (x : Blk) (n i : Nat) : (x.take n).getD i 0 = if i < n then x.getD i 0 else 0 := by
  rw [List.getD_eq_getElem?_getD, List.getElem?_take]
  split
  · rw [List.getD_eq_getElem?_getD]
  · rfl
theorem gd_drop (x : Blk) (n i : Nat) : (x.drop n).getD i 0 = x.getD (n + i) 0 := by
  rw [List.getD_eq_getElem?_getD, List.getElem?_drop, List.getD_eq_getElem?_getD]
theorem gd_out {x : Blk} {i : Nat} (h : x.length ≤ i) : x.getD i 0 = 0 := by
  rw [List.getD_eq_getElem?_getD, List.getElem?_eq_none h]
  rfl
theorem gd_ext {x y : Blk} (h : x.length = y.length) (k : ∀ i, i < y.length → x.getD i 0 = y.getD i 0) : x = y := by
  refine List.ext_getElem h fun i h1 h2 => ?_
  have := k i h2
  rw [List.getD_eq_getElem?_getD, List.getD_eq_getElem?_getD, List.getElem?_eq_getElem h1, List.getElem?_eq_getElem h2] at this
  exact this
theorem gd_pad {z b i : Nat} {flat : Blk} (h : i < z) : (padB z flat b).getD i 0 = flat.getD (b * z + i) 0 := by
  unfold padB
  rw [gd_append]
  unfold cutB
  rw [gd_take, gd_drop, if_pos h]
  split
  · rfl
  · rename_i q
    rw [List.length_take, List.length_drop] at q
    rw [gd_out (x := flat) (by omega), List.getD_eq_getElem?_getD, List.getElem?_replicate]
    split <;> rfl
theorem padB_len (z : Nat) (flat : Blk) (b : Nat) : (padB z flat b).length = z := by
  unfold padB
  have := cutB_le z flat b
  rw [List.length_append, List.length_replicate]
  omega
def updB (o : Blk) (v : Nat × Blk) : Blk := o.take v.1 ++ v.2 ++ o.drop (v.1 + v.2.length)
def updF (flat : Blk) (a : Nat) (told : Blk) : Blk := flat.take a ++ told ++ flat.drop (a + told.length)
theorem updF_len {flat told : Blk} {a : Nat} (h : a + told.length ≤ flat.length) : (updF flat a told).length = flat.length := by
  unfold updF
  rw [List.length_append, List.length_append, List.length_take, List.length_drop]
  omega
theorem updF_get {flat told : Blk} {a : Nat} (h : a + told.length ≤ flat.length) (j : Nat) : (updF flat a told).getD j 0 = if a ≤ j ∧ j < a + told.length then told.getD (j - a) 0 else flat.getD j 0 := by
  unfold updF
  rw [gd_append, gd_append, gd_take, gd_drop, List.length_append, List.length_take]
  have m : min a flat.length = a := by omega
  rw [m]
  by_cases h1 : j < a
  · rw [if_pos (by omega), if_pos h1, if_pos h1, if_neg (by omega)]
  · by_cases h2 : j < a + told.length
    · rw [if_pos h2, if_neg h1, if_pos ⟨by omega, h2⟩]
    · rw [if_neg h2, if_neg (fun q => h2 q.2)]
      congr 1
      omega
theorem updF_byte {flat told : Blk} {a : Nat} (h1 : ∀ y ∈ flat, y < 256) (h2 : ∀ y ∈ told, y < 256) : ∀ y ∈ updF flat a told, y < 256 := fun y hy => by
  unfold updF at hy
  rcases List.mem_append.mp hy with q | q
  · rcases List.mem_append.mp q with q | q
    · exact h1 y (List.mem_of_mem_take q)
    · exact h2 y q
  · exact h1 y (List.mem_of_mem_drop q)
theorem pcB_len {z a b : Nat} {told : Blk} : (pcB z a told b).2.length = min (z - (a - b * z)) (told.length - (b * z + (a - b * z) - a)) := by
  unfold pcB
  rw [List.length_take, List.length_drop]
theorem upd_len {z a b : Nat} {told o : Blk} (ho : o.length = z) : (updB o (pcB z a told b)).length = z ∨ z < (a - b * z) + (pcB z a told b).2.length := by
  unfold updB
  rw [List.length_append, List.length_append, List.length_take, List.length_drop, ho]
  show min (a - b * z) z + (pcB z a told b).2.length + (z - ((a - b * z) + (pcB z a told b).2.length)) = z ∨ _
  omega
theorem pad_upd {z a b : Nat} {flat told : Blk} (hz : 0 < z) (t0 : 0 < told.length) (h : a + told.length ≤ flat.length) :
    padB z (updF flat a told) b = if a / z ≤ b ∧ b < a / z + nBl z a told.length then updB (padB z flat b) (pcB z a told b) else padB z flat b := by
  have le1 : a / z ≤ (a + told.length - 1) / z := Nat.div_le_div_right (by omega)
  have en : a / z + nBl z a told.length = (a + told.length - 1) / z + 1 := by unfold nBl; omega
  rw [en]
  by_cases q : a / z ≤ b ∧ b < (a + told.length - 1) / z + 1
  · rw [if_pos q]
    have q1 : a < (b + 1) * z := by
      have := (Nat.div_lt_iff_lt_mul hz).mp (show a / z < b + 1 by omega)
      exact this
    have q2 : b * z ≤ a + told.length - 1 := by
      have := (Nat.le_div_iff_mul_le hz).mp (show b ≤ (a + told.length - 1) / z by omega)
      exact this
    rw [Nat.add_mul, Nat.one_mul] at q1
    have pl := pcB_len (z := z) (a := a) (b := b) (told := told)
    have ul : (updB (padB z flat b) (pcB z a told b)).length = z := by
      rcases upd_len (a := a) (b := b) (told := told) (padB_len z flat b) with e | e
      · exact e
      · omega
    refine gd_ext (by rw [padB_len, ul]) fun i hi => ?_
    rw [ul] at hi
    rw [gd_pad hi, updF_get h]
    unfold updB
    rw [gd_append, gd_append, gd_take, gd_drop, List.length_append, List.length_take, padB_len]
    have e1 : (pcB z a told b).1 = a - b * z := rfl
    rw [e1, pl]
    have mb : min (a - b * z) z = a - b * z := by omega
    have mn : ∀ x y : Nat, (min x y = x ∧ x ≤ y) ∨ (min x y = y ∧ y ≤ x) := fun x y => by omega
    have mx := mn (z - (a - b * z)) (told.length - (b * z + (a - b * z) - a))
    generalize min (z - (a - b * z)) (told.length - (b * z + (a - b * z) - a)) = mm at mx ⊢
    rw [mb]
    by_cases h1 : i < a - b * z
    · rw [if_neg (show ¬ (a ≤ b * z + i ∧ b * z + i < a + told.length) by omega), if_pos (show i < a - b * z + mm by omega), if_pos h1, if_pos h1, gd_pad hi]
    · by_cases h2 : i < a - b * z + mm
      · rw [if_pos (show a ≤ b * z + i ∧ b * z + i < a + told.length by omega), if_pos h2, if_neg h1]
        unfold pcB
        rw [gd_take, gd_drop, if_pos (by omega)]
        congr 1
        omega
      · rw [if_neg (show ¬ (a ≤ b * z + i ∧ b * z + i < a + told.length) by omega), if_neg h2]
        have : a - b * z + mm + (i - (a - b * z + mm)) = i := by omega
        rw [this, gd_pad hi]
  · rw [if_neg q]
    refine gd_ext (by rw [padB_len, padB_len]) fun i hi => ?_
    rw [padB_len] at hi
    rw [gd_pad hi, gd_pad hi, updF_get h, if_neg]
    rintro ⟨g1, g2⟩
    apply q
    constructor
    · have : a / z < b + 1 := (Nat.div_lt_iff_lt_mul hz).mpr (by rw [Nat.add_mul, Nat.one_mul]; omega)
      omega
    · have : b ≤ (a + told.length - 1) / z := (Nat.le_div_iff_mul_le hz).mpr (by omega)
      omega
end Law
namespace Law
open PySem L2 HC PyProof.Rows
def dat0 (s : Store) (fs : List (List Blk)) (r : Nat) : List Blk := (fs.getD r []).take (s.wide r - s.head.par)
def datP (s : Store) (fs : List (List Blk)) (a : Nat) (told : Blk) : Nat → Nat → List Blk
  | 0, r => dat0 s fs r
  | i + 1, r => if (s.spotN (a / s.head.size + i)).1 = r then setPc (datP s fs a told i r) ((s.spotN (a / s.head.size + i)).2, pcB s.head.size a told (a / s.head.size + i)) else datP s fs a told i r
variable {s : Store} {fs : List (List Blk)} {a : Nat} {told : Blk}
theorem lt_last {g : Grp} {rp : Nat × Nat} {x : Nat × Pcs} (h : GrpOk g rp) (e : g.getLast? = some x) (hr : ¬ x.1 = rp.1) : ∀ y ∈ g, y.1 < rp.1 := fun y hy => by
  have eg := last_split e
  have hx : x ∈ g := by rw [eg]; simp
  have up := h.up
  rw [eg, List.map_append, List.pairwise_append] at up
  rw [eg] at hy
  rcases List.mem_append.mp hy with q | q
  · have h1 := up.2.2 y.1 (List.mem_map.mpr ⟨y, q, rfl⟩) x.1 (by simp)
    rcases h.bd x hx with l | ⟨l, _⟩ <;> omega
  · rw [List.mem_singleton.mp q]
    rcases h.bd x hx with l | ⟨l, _⟩ <;> omega
theorem lt_drop {g : Grp} {rp : Nat × Nat} {x : Nat × Pcs} (h : GrpOk g rp) (e : g.getLast? = some x) : ∀ y ∈ g.dropLast, y.1 < x.1 := fun y hy => by
  have eg := last_split e
  have up := h.up
  rw [eg, List.map_append, List.pairwise_append] at up
  exact up.2.2 y.1 (List.mem_map.mpr ⟨y, hy, rfl⟩) x.1 (by simp)
theorem grp_dat (ok : s.Ok) : ∀ i r, (∀ x ∈ s.grp a told i, x.1 = r → x.2.foldl setPc (dat0 s fs r) = datP s fs a told i r) ∧ ((∀ x ∈ s.grp a told i, x.1 ≠ r) → datP s fs a told i r = dat0 s fs r)
  | 0, r => ⟨fun x hx => (by cases hx), fun _ => rfl⟩
  | i + 1, r => by
    have ih := grp_dat ok i r
    have g := grp_ok ok a told i
    show (∀ x ∈ addG (s.grp a told i) (s.spotN (a / s.head.size + i)) (pcB s.head.size a told (a / s.head.size + i)), x.1 = r → x.2.foldl setPc (dat0 s fs r) = (if (s.spotN (a / s.head.size + i)).1 = r then _ else _)) ∧ ((∀ x ∈ addG (s.grp a told i) (s.spotN (a / s.head.size + i)) (pcB s.head.size a told (a / s.head.size + i)), x.1 ≠ r) → (if (s.spotN (a / s.head.size + i)).1 = r then _ else _) = _)
    generalize s.spotN (a / s.head.size + i) = rp at g ⊢
    generalize pcB s.head.size a told (a / s.head.size + i) = v
    generalize datP s fs a told i r = D at ih ⊢
    generalize s.grp a told i = gr at ih g ⊢
    unfold addG
    cases e : gr.getLast? with
    | none =>
      have : gr = [] := List.getLast?_eq_none_iff.mp e
      subst this
      have d0 := ih.2 (fun x hx => by cases hx)
      refine ⟨fun x hx hr => ?_, fun h => ?_⟩
      · rw [List.mem_singleton.mp hx] at hr ⊢
        rw [if_pos hr, d0]
        rfl
      · rw [if_neg (h _ (List.mem_singleton.mpr rfl)), d0]
    | some x0 =>
      have eg := last_split e
      have hx0 : x0 ∈ gr := by rw [eg]; simp
      simp only []
      by_cases hr : x0.1 = rp.1
      · rw [if_pos hr]
        refine ⟨fun x hx hxr => ?_, fun h => ?_⟩
        · rcases List.mem_append.mp hx with q | q
          · have := lt_drop g e x q
            rw [if_neg (by omega)]
            exact ih.1 x (List.dropLast_subset _ q) hxr
          · have q := List.mem_singleton.mp q
            subst q
            have hxr : x0.1 = r := hxr
            rw [if_pos (by omega)]
            show (x0.2 ++ [(rp.2, v)]).foldl setPc _ = _
            rw [List.foldl_append, ih.1 x0 hx0 hxr]
            rfl
        · have h1 := h (x0.1, x0.2 ++ [(rp.2, v)]) (List.mem_append_right _ (List.mem_singleton.mpr rfl))
          have h1 : x0.1 ≠ r := h1
          rw [if_neg (by omega)]
          refine ih.2 fun x hx => ?_
          rw [eg] at hx
          rcases List.mem_append.mp hx with q | q
          · exact h x (List.mem_append_left _ q)
          · rw [List.mem_singleton.mp q]
            exact h1
      · rw [if_neg hr]
        have lt := lt_last g e hr
        refine ⟨fun x hx hxr => ?_, fun h => ?_⟩
        · rcases List.mem_append.mp hx with q | q
          · have := lt x q
            rw [if_neg (by omega)]
            exact ih.1 x q hxr
          · have q := List.mem_singleton.mp q
            subst q
            have hxr : rp.1 = r := hxr
            rw [if_pos hxr, ih.2 fun y hy => by have := lt y hy; omega]
            rfl
        · have h1 := h (rp.1, [(rp.2, v)]) (List.mem_append_right _ (List.mem_singleton.mpr rfl))
          have h1 : rp.1 ≠ r := h1
          rw [if_neg h1]
          exact ih.2 fun x hx => h x (List.mem_append_left _ hx)
theorem datP_len : ∀ i r, (datP s fs a told i r).length = (dat0 s fs r).length
  | 0, _ => rfl
  | i + 1, r => by
    unfold datP
    split
    · rw [setPc_len]
      exact datP_len i r
    · exact datP_len i r
theorem Agree.dat (ok : s.Ok) (ag : Agree s fs) {r : Nat} (hr : r < s.head.rows) : (dat0 s fs r).length = s.wide r - s.head.par ∧ WfR s.head.size (dat0 s fs r) ∧ fs.getD r [] = dat0 s fs r ++ parB s.head.par s.head.size (dat0 s fs r) := by
  obtain ⟨as, e, l, w⟩ := ag.row r hr
  have e1 : dat0 s fs r = as := by
    unfold dat0
    rw [e, List.take_append_of_le_length (by omega), List.take_of_length_le (by omega)]
  rw [e1]
  exact ⟨by omega, w, e⟩
theorem Agree.dataT (ok : s.Ok) (ag : Agree s fs) {r : Nat} (hr : r < s.head.rows) (hn : noneN (s.row r) ≤ s.head.par) : dataTold s.head.par s.head.size (s.row r) = dat0 s fs r := by
  have h1 := ag.told ok hr hn
  have h2 := ag.dat ok hr
  rw [h2.2.2] at h1
  have hk := noneN_known (s.row r)
  rw [Store.row_len] at hk
  have l1 := (newD_ok ok (row := r) (l := []) (by omega) (fun y hy => by cases hy)).2
  exact (List.append_inj h1 (by have : (s.newD r []).length = (dataTold s.head.par s.head.size (s.row r)).length := rfl; rw [← this, l1, h2.1])).1
theorem spot_inj (ok : s.Ok) {n m : Nat} (h : s.spotN n = s.spotN m) : n = m := by
  rcases Nat.lt_trichotomy n m with q | q | q
  · rcases spot_mono ok q with k | ⟨_, k⟩ <;> (rw [h] at k; omega)
  · exact q
  · rcases spot_mono ok q with k | ⟨_, k⟩ <;> (rw [h] at k; omega)
theorem datP_get (ok : s.Ok) {b : Nat} (hp : (s.spotN b).2 < (dat0 s fs (s.spotN b).1).length) : ∀ i, (datP s fs a told i (s.spotN b).1).getD (s.spotN b).2 [] = if a / s.head.size ≤ b ∧ b < a / s.head.size + i then updB ((dat0 s fs (s.spotN b).1).getD (s.spotN b).2 []) (pcB s.head.size a told b) else (dat0 s fs (s.spotN b).1).getD (s.spotN b).2 []
  | 0 => by rw [if_neg (by omega)]; rfl
  | i + 1 => by
    have ih := datP_get ok hp i
    unfold datP
    by_cases hb : b = a / s.head.size + i
    · subst hb
      rw [if_pos rfl, if_pos ⟨by omega, by omega⟩]
      rw [if_neg (by omega)] at ih
      unfold setPc
      rw [getD_setA, if_pos ⟨rfl, by rw [datP_len]; exact hp⟩, ih]
      rfl
    · have hc : (a / s.head.size ≤ b ∧ b < a / s.head.size + (i + 1)) ↔ (a / s.head.size ≤ b ∧ b < a / s.head.size + i) := by omega
      rw [ite_congr (propext hc) (fun _ => rfl) (fun _ => rfl), ← ih]
      by_cases hr : (s.spotN (a / s.head.size + i)).1 = (s.spotN b).1
      · rw [if_pos hr]
        unfold setPc
        rw [getD_setA, if_neg]
        rintro ⟨q, _⟩
        exact hb (spot_inj ok (Prod.ext hr q)).symm
      · rw [if_neg hr]
theorem datP_wf (ok : s.Ok) (ag : Agree s fs) (hb : ∀ y ∈ told, y < 256) {r : Nat} (hr : r < s.head.rows) : ∀ i, a / s.head.size + i ≤ s.kept → WfR s.head.size (datP s fs a told i r)
  | 0, _ => (ag.dat ok hr).2.1
  | i + 1, h => by
    unfold datP
    split
    · rename_i q
      refine setPc_wf (datP_wf ok ag hb hr i (by omega)) ?_ ?_ fun y hy => ?_
      · rw [datP_len, (ag.dat ok hr).1, ← q]
        exact (spot_in ok (show a / s.head.size + i < s.kept by omega)).2.1
      · show (a - (a / s.head.size + i) * s.head.size) + _ ≤ _
        rw [pcB_len]
        have z1 := ok.head.size1
        have e1 := Nat.div_add_mod a s.head.size
        have e2 := Nat.mod_lt a z1
        have e3 : (a / s.head.size + i) * s.head.size = s.head.size * (a / s.head.size) + i * s.head.size := by rw [Nat.add_mul, Nat.mul_comm]
        omega
      · unfold pcB at hy
        exact hb y (List.mem_of_mem_drop (List.mem_of_mem_take hy))
    · exact datP_wf ok ag hb hr i (by omega)
end Law
set_option maxHeartbeats 1000000
namespace Law
open PySem L2 HC PyProof.Rows
structure Wr (s : Store) (fs : List (List Blk)) (a : Nat) (told : Blk) : Prop where
  ok : s.Ok
  j : s.journal = []
  ag : Agree s fs
  none : ∀ r, r < s.head.rows → noneN (s.row r) ≤ s.head.par
  t0 : told ≠ []
  room : a + told.length ≤ s.kept * s.head.size
  byte : ∀ y ∈ told, y < 256
theorem getD_left {α : Type} {x y : List α} {d : α} {i : Nat} (h : i < x.length) : (x ++ y).getD i d = x.getD i d := by
  rw [List.getD_eq_getElem?_getD, List.getElem?_append_left h, List.getD_eq_getElem?_getD]
def nW (s : Store) (a : Nat) (told : Blk) : Nat := nBl s.head.size a told.length
def fsW (s : Store) (fs : List (List Blk)) (a : Nat) (told : Blk) : List (List Blk) := (List.range s.head.rows).map fun r => datP s fs a told (nW s a told) r ++ parB s.head.par s.head.size (datP s fs a told (nW s a told) r)
def layW (s : Store) (fs : List (List Blk)) (a : Nat) (told : Blk) : Lay := ⟨s.head.par, s.head.size, s.head.rows, s.disks.length, s.head.width, s.head.moved, fsW s fs a told⟩
variable {s : Store} {fs : List (List Blk)} {a : Nat} {told : Blk}
theorem Wr.end (h : Wr s fs a told) : a / s.head.size + nW s a told ≤ s.kept := by
  have z1 := h.ok.head.size1
  have tp : 0 < told.length := List.length_pos_iff.mpr h.t0
  have hroom := h.room
  unfold nW nBl
  have e2 : (a + told.length - 1) / s.head.size < s.kept := (Nat.div_lt_iff_lt_mul (by omega)).mpr (by omega)
  have e3 : a / s.head.size ≤ (a + told.length - 1) / s.head.size := Nat.div_le_div_right (by omega)
  omega
theorem fsW_get {r : Nat} (hr : r < s.head.rows) : (fsW s fs a told).getD r [] = datP s fs a told (nW s a told) r ++ parB s.head.par s.head.size (datP s fs a told (nW s a told) r) := by
  unfold fsW
  rw [List.getD_eq_getElem?_getD, List.getElem?_map, List.getElem?_range hr]
  rfl
theorem Wr.known (h : Wr s fs a told) {r : Nat} (hr : r < s.head.rows) : s.wide r - s.head.par ≤ (known (s.row r)).length := by
  have hk := noneN_known (s.row r)
  rw [Store.row_len] at hk
  have := h.none r hr
  omega
theorem Wr.rowIn (h : Wr s fs a told) {x : Nat × Pcs} (hx : x ∈ s.grp a told (nW s a told)) : x.1 < s.head.rows ∧ ∀ y ∈ x.2, y.1 < s.wide x.1 - s.head.par ∧ y.2.1 + y.2.2.length ≤ s.head.size ∧ ∀ w ∈ y.2.2, w < 256 :=
  grp_pcs h.ok (a := a) h.byte (nW s a told) h.end x hx
theorem Wr.full (h : Wr s fs a told) {x : Nat × Pcs} (hx : x ∈ s.grp a told (nW s a told)) : s.fullN x.1 x.2 = (fsW s fs a told).getD x.1 [] := by
  obtain ⟨h1, h2⟩ := h.rowIn hx
  rw [fsW_get h1, ← (grp_dat h.ok (nW s a told) x.1).1 x hx rfl]
  unfold Store.fullN Store.newD
  rw [h.ag.dataT h.ok h1 (h.none _ h1)]
theorem Wr.datL (h : Wr s fs a told) {r : Nat} (hr : r < s.head.rows) (i : Nat) : (datP s fs a told i r).length = s.wide r - s.head.par := by
  rw [datP_len, (h.ag.dat h.ok hr).1]
theorem Wr.notes (h : Wr s fs a told) {x : BN} (hx : x ∈ s.notesW a told) : ∃ r, r < s.head.rows ∧ ∃ p, p < s.wide r ∧ x = ((r + p) % s.wide r, r, ((fsW s fs a told).getD r []).getD p []) := by
  unfold Store.notesW at hx
  obtain ⟨y, hy, hx⟩ := List.mem_flatMap.mp hx
  have hy : y ∈ s.grp a told (nW s a told) := hy
  obtain ⟨h1, h2⟩ := h.rowIn hy
  have w0 := h.ok.wide_pos y.1
  unfold Store.rowN at hx
  obtain ⟨p, hp, e⟩ := List.mem_filterMap.mp hx
  rw [h.full hy] at e
  unfold noteAt at e
  split at e
  · refine ⟨y.1, h1, p, ?_, (Option.some.inj e).symm⟩
    rcases List.mem_append.mp hp with q | q
    · obtain ⟨v, hv, rfl⟩ := List.mem_map.mp q
      have := (h2 v hv).1
      omega
    · obtain ⟨i, hi, rfl⟩ := List.mem_map.mp q
      have := List.mem_range.mp hi
      omega
  · cases e
theorem fold_other {j : Nat} : ∀ {l : Pcs} {D : List Blk}, (∀ x ∈ l, x.1 ≠ j) → (l.foldl setPc D).getD j [] = D.getD j []
  | [], _, _ => rfl
  | x :: l, D, h => by
    rw [List.foldl_cons, fold_other fun y hy => h y (List.mem_cons_of_mem _ hy)]
    unfold setPc
    rw [getD_setA, if_neg (fun q => h x List.mem_cons_self q.1)]
theorem Wr.cover (h : Wr s fs a told) {r j : Nat} (hr : r < s.head.rows) (hj : j < s.wide r) : (∃ x ∈ s.notesW a told, x.1 = (r + j) % s.wide r ∧ x.2.1 = r) ∨ s.disks.getD ((r + j) % s.wide r) Option.none = Option.none ∨ ((fsW s fs a told).getD r []).getD j [] = (fs.getD r []).getD j [] := by
  have w0 := h.ok.wide_pos r
  obtain ⟨d1, d2, d3⟩ := h.ag.dat h.ok hr
  by_cases q : ∃ y ∈ s.grp a told (nW s a told), y.1 = r
  · obtain ⟨y, hy, rfl⟩ := q
    by_cases hn : j ∈ (y.2.map (·.1)) ++ (List.range s.head.par).map (s.wide y.1 - s.head.par + ·)
    · cases hs : s.disks.getD ((y.1 + j) % s.wide y.1) Option.none with
      | none => exact .inr (.inl rfl)
      | some bs =>
        left
        have en : noteAt s y.1 (s.fullN y.1 y.2) j = some ((y.1 + j) % s.wide y.1, y.1, (s.fullN y.1 y.2).getD j []) := by
          unfold noteAt
          rw [hs]
          rfl
        exact ⟨((y.1 + j) % s.wide y.1, y.1, (s.fullN y.1 y.2).getD j []), List.mem_flatMap.mpr ⟨y, hy, List.mem_filterMap.mpr ⟨j, hn, en⟩⟩, rfl, rfl⟩
    · right; right
      have jl : j < s.wide y.1 - s.head.par := by
        by_cases c : j < s.wide y.1 - s.head.par
        · exact c
        · exact absurd (List.mem_append_right _ (List.mem_map.mpr ⟨j - (s.wide y.1 - s.head.par), List.mem_range.mpr (by omega), by show s.wide y.1 - s.head.par + (j - (s.wide y.1 - s.head.par)) = j; omega⟩)) hn
      have np : ∀ x ∈ y.2, x.1 ≠ j := fun x hx e => hn (List.mem_append_left _ (List.mem_map.mpr ⟨x, hx, e⟩))
      rw [fsW_get hr, d3, getD_left (by rw [h.datL hr]; exact jl), getD_left (by rw [d1]; exact jl), ← (grp_dat h.ok (nW s a told) y.1).1 y hy rfl]
      exact fold_other np
  · right; right
    rw [fsW_get hr, (grp_dat h.ok (nW s a told) r).2 (fun x hx e => q ⟨x, hx, e⟩), ← d3]
theorem Wr.nok (h : Wr s fs a told) : ∀ x ∈ s.notesW a told, x.1 < s.disks.length ∧ x.2.1 < s.head.rows ∧ BlkOk' x.2.2 s.head.size :=
  (write_notes h.ok h.t0 h.room h.byte fun x hx => h.known (h.rowIn hx).1).n
theorem Wr.form (h : Wr s fs a told) {r : Nat} (hr : r < s.head.rows) : ∃ as : List Blk, (fsW s fs a told).getD r [] = as ++ parB s.head.par s.head.size as ∧ as.length + s.head.par = s.wide r ∧ WfR s.head.size as := by
  have w0 := h.ok.wide_pos r
  exact ⟨_, fsW_get hr, by rw [h.datL hr]; omega, datP_wf h.ok h.ag h.byte hr _ h.end⟩
theorem Wr.noted (h : Wr s fs a told) : Lie (layW s fs a told) (s.notesW a told) (some (s.head.width, s.head.moved)) ⟨s.head, s.disks, jrn (s.notesW a told) (some (s.head.width, s.head.moved))⟩ := by
  refine ⟨⟨h.ok.head, h.ok.disks, fun i n k => ?_⟩, rfl, rfl, rfl, rfl, rfl, .inr rfl, by simp [layW, fsW], fun r hr => h.form hr, fun _ x hx => ?_, fun r hr j hj => ?_⟩
  · have k : ((s.notesW a told).map noteB' ++ [Note.fin (s.notesW a told).length s.head.width s.head.moved])[i]? = some n := k
    show NoteOk s.head s.disks.length i (decide (i + 1 = ((s.notesW a told).map noteB' ++ [Note.fin (s.notesW a told).length s.head.width s.head.moved]).length)) n
    by_cases q : i < (s.notesW a told).length
    · rw [List.getElem?_append_left (by rw [List.length_map]; exact q), List.getElem?_map] at k
      obtain ⟨x, hx, rfl⟩ := Option.map_eq_some_iff.mp k
      exact h.nok x (List.mem_of_getElem? hx)
    · rw [List.getElem?_append_right (by rw [List.length_map]; omega), List.length_map] at k
      have : i - (s.notesW a told).length = 0 := by
        have := (List.getElem?_eq_some_iff.mp k).1
        simp at this
        omega
      rw [this] at k
      have k : some (Note.fin (s.notesW a told).length s.head.width s.head.moved) = some n := k
      cases k
      exact ⟨decide_eq_true (by simp; omega), by omega, h.ok.head.width1, h.ok.head.width2, h.ok.head.many⟩
  · obtain ⟨r, hr, p, hp, rfl⟩ := h.notes hx
    exact ⟨p, hp, rfl, rfl⟩
  · have hr : r < s.head.rows := hr
    have hj : j < s.wide r := hj
    rcases h.cover hr hj with c | c | c
    · exact .inl ⟨by simp, c⟩
    · right; left
      show s.cell _ r = _
      unfold Store.cell
      rw [show (layW s fs a told).wide r = s.wide r from rfl, c]
    · right
      rcases h.ag.cell r hr j hj with q | q
      · exact .inl q
      · right
        show s.cell ((r + j) % s.wide r) r = some (((fsW s fs a told).getD r []).getD j [])
        rw [c]
        exact q
theorem setD_some {ds : List Disk} {d r i q : Nat} {b : Blk} (h : cellD (setD ds d r (some b)) i q = none) : cellD ds i q = none := by
  by_cases e : i = d ∧ q = r
  · obtain ⟨rfl, rfl⟩ := e
    cases el : lenD ds i with
    | none =>
      unfold lenD at el
      unfold cellD
      cases e3 : ds.getD i none with
      | none => rfl
      | some bs => rw [e3] at el; cases el
    | some n =>
      by_cases hq : q < n
      · rw [setD_eq el hq] at h
        cases h
      · unfold lenD at el
        unfold cellD
        cases e3 : ds.getD i none with
        | none => rfl
        | some bs =>
          rw [e3] at el
          have el : some bs.length = some n := el
          cases el
          show bs.getD q none = none
          rw [List.getD_eq_getElem?_getD, List.getElem?_eq_none (by omega)]
          rfl
  · rw [setD_ne (by omega)] at h
    exact h
theorem blkF_some {i q : Nat} : ∀ (xs : List BN) (ds : List Disk), cellD (blkF ds xs) i q = none → cellD ds i q = none
  | [], _, h => h
  | x :: xs, ds, h => setD_some (blkF_some xs _ h)
def wroteS (s : Store) (a : Nat) (told : Blk) : Store := ⟨s.head, blkF s.disks (s.notesW a told), []⟩
theorem none_blk (t : Store) (N : List BN) (js : List Note) (r : Nat) : noneN ((⟨t.head, blkF t.disks N, js⟩ : Store).row r) ≤ noneN (t.row r) := by
  rw [noneN_row, noneN_row]
  refine filter_le fun j _ h => ?_
  have h : ((⟨t.head, blkF t.disks N, js⟩ : Store).cell ((r + j) % t.wide r) r).isNone = true := h
  rw [cell_D] at h ⊢
  have h2 := blkF_some N t.disks (Option.isNone_iff_eq_none.mp h)
  exact Option.isNone_iff_eq_none.mpr h2
theorem lost_blk (t : Store) (N : List BN) (js : List Note) : lostC (⟨t.head, blkF t.disks N, js⟩ : Store) = lostC t := by
  unfold lostC
  rw [lost_map, lost_map]
  show ((blkF t.disks N).map Option.isNone |>.filter id).length = _
  rw [blkF_none]
theorem Wr.bnd (h : Wr s fs a told) (hl : lostC s ≤ s.head.par) : Bnd (layW s fs a told) (s.notesW a told) (some (s.head.width, s.head.moved)) ⟨s.head, s.disks, jrn (s.notesW a told) (some (s.head.width, s.head.moved))⟩ s.head.par := by
  refine ⟨hl, fun r hr => ?_⟩
  exact Nat.le_trans (none_blk s (s.notesW a told) [] r) (h.none r hr)
theorem Wr.startS (h : Wr s fs a told) : startS ⟨s.head, s.disks, jrn (s.notesW a told) (some (s.head.width, s.head.moved))⟩ (s.notesW a told) (some (s.head.width, s.head.moved)) = wroteS s a told := rfl
theorem Wr.agree (h : Wr s fs a told) : Agree (wroteS s a told) (fsW s fs a told) := h.noted.agree
theorem Wr.okS (h : Wr s fs a told) : (wroteS s a told).Ok := h.noted.okS
theorem Wr.wrote (h : Wr s fs a told) : (s.wrote a told).foldl applyC s = wroteS s a told := by
  unfold Store.wrote
  rw [if_neg h.t0, deed_fold]
  rfl
theorem Wr.tells (h : Wr s fs a told) {flat : Blk} {b : Nat} (hf : flat.length = s.kept * s.head.size) (hr : (s.spotN b).1 < s.head.rows) (hp : (s.spotN b).2 < s.wide (s.spotN b).1 - s.head.par) (hb : (fs.getD (s.spotN b).1 []).getD (s.spotN b).2 [] = padB s.head.size flat b) :
    ((fsW s fs a told).getD (s.spotN b).1 []).getD (s.spotN b).2 [] = padB s.head.size (updF flat a told) b := by
  obtain ⟨d1, d2, d3⟩ := h.ag.dat h.ok hr
  have tp : 0 < told.length := List.length_pos_iff.mpr h.t0
  rw [pad_upd h.ok.head.size1 tp (by rw [hf]; exact h.room), fsW_get hr, getD_left (by rw [h.datL hr]; exact hp), datP_get h.ok (by rw [d1]; exact hp)]
  have e : (dat0 s fs (s.spotN b).1).getD (s.spotN b).2 [] = padB s.head.size flat b := by
    rw [← hb, d3, getD_left (by rw [d1]; exact hp)]
  rw [e]
  rfl
end Law
namespace Law
open PySem L2 HC PyProof.Rows
def LostB (s : Store) (n : Nat) : Prop := s.head.par < noneN (s.row (s.spotN n).1) ∧ (s.row (s.spotN n).1).getD (s.spotN n).2 none = none
instance (s : Store) (n : Nat) : Decidable (LostB s n) := by unfold LostB; exact inferInstance
def NoneL (s : Store) (a m : Nat) : Prop := 0 < m → ∀ b, a / s.head.size ≤ b → b < endB s.head.size a m → ¬ LostB s b
def valB (s : Store) (fs : List (List Blk)) (b : Nat) : Blk := (fs.getD (s.spotN b).1 []).getD (s.spotN b).2 []
def Store.bare (s : Store) : Store := ⟨s.head, s.disks, []⟩
theorem val_wf {s : Store} {fs : List (List Blk)} (ok : s.Ok) (ag : Agree s fs) {b : Nat} (h : b < s.kept) : BlkOk' (valB s fs b) s.head.size := by
  obtain ⟨a1, a2, _⟩ := spot_in ok h
  have fl := ag.rowLen ok a1
  unfold valB
  have hw := ag.wf a1
  exact hw _ (getD_mem (by rw [fl]; omega))
end Law
set_option maxHeartbeats 1000000
namespace Law
open PySem L2 HC PyProof.Rows
structure Gd (s : Store) (fs : List (List Blk)) (flat : Blk) : Prop where
  ok : s.Ok
  j : s.journal = []
  ag : Agree s fs
  none : ∀ r, r < s.head.rows → noneN (s.row r) ≤ s.head.par
  lost : lostC s ≤ s.head.par
  len : flat.length = s.kept * s.head.size
  byte : ∀ y ∈ flat, y < 256
  tells : ∀ b, (b < s.kept ∨ b / (s.head.width + 1 - s.head.par) < s.head.moved) → (fs.getD (s.spotN b).1 []).getD (s.spotN b).2 [] = padB s.head.size flat b
variable {s t : Store} {fs : List (List Blk)} {flat : Blk}
theorem moved_le (ok : s.Ok) : s.head.moved < s.head.rows := by
  have r1 := ok.head.rows1
  rcases ok.head.many with h | h <;> omega
theorem spot_moved {b : Nat} (h : b / (s.head.width + 1 - s.head.par) < s.head.moved) : s.spotN b = (b / (s.head.width + 1 - s.head.par), b % (s.head.width + 1 - s.head.par)) := by
  unfold Store.spotN
  rw [if_pos h]
  rfl
theorem spot_unmoved {b : Nat} (h : ¬ b / (s.head.width + 1 - s.head.par) < s.head.moved) : s.spotN b = (b / (s.head.width - s.head.par), b % (s.head.width - s.head.par)) := by
  unfold Store.spotN
  rw [if_neg h]
  rfl
theorem spot_at (ok : s.Ok) {b : Nat} (h : b < s.kept ∨ b / (s.head.width + 1 - s.head.par) < s.head.moved) : (s.spotN b).1 < s.head.rows ∧ (s.spotN b).2 < s.wide (s.spotN b).1 - s.head.par := by
  rcases h with h | h
  · obtain ⟨h1, h2, _⟩ := spot_in ok h
    exact ⟨h1, h2⟩
  · have m := moved_le ok
    have w1 := ok.head.width1
    rw [spot_moved h]
    refine ⟨Nat.lt_trans h m, ?_⟩
    show b % (s.head.width + 1 - s.head.par) < s.head.width + (if b / (s.head.width + 1 - s.head.par) < s.head.moved then 1 else 0) - s.head.par
    rw [if_pos h]
    exact Nat.mod_lt _ (by omega)
theorem Gd.wr (h : Gd s fs flat) {a : Nat} {told : Blk} (t0 : told ≠ []) (hr : a + told.length ≤ s.kept * s.head.size) (hb : ∀ y ∈ told, y < 256) : Wr s fs a told := ⟨h.ok, h.j, h.ag, h.none, t0, hr, hb⟩
theorem Gd.write (h : Gd s fs flat) {a : Nat} {told : Blk} (t0 : told ≠ []) (hr : a + told.length ≤ s.kept * s.head.size) (hb : ∀ y ∈ told, y < 256) : Gd (wroteS s a told) (fsW s fs a told) (updF flat a told) := by
  have w := h.wr t0 hr hb
  refine ⟨w.okS, rfl, w.agree, fun r hr => ?_, ?_, ?_, updF_byte h.byte hb, fun b hb => ?_⟩
  · exact Nat.le_trans (none_blk s _ [] r) (h.none r hr)
  · exact Nat.le_trans (Nat.le_of_eq (lost_blk s _ [])) h.lost
  · rw [updF_len (by rw [h.len]; exact hr)]
    exact h.len
  · have hb : b < s.kept ∨ b / (s.head.width + 1 - s.head.par) < s.head.moved := hb
    obtain ⟨s1, s2⟩ := spot_at h.ok hb
    exact w.tells h.len s1 s2 (h.tells b hb)
theorem padB_zero {z b n : Nat} : padB z (flat ++ List.replicate n 0) b = padB z flat b := by
  refine gd_ext (by rw [padB_len, padB_len]) fun i hi => ?_
  rw [padB_len] at hi
  rw [gd_pad hi, gd_pad hi, gd_append]
  split
  · rfl
  · rename_i q
    rw [gd_out (x := flat) (by omega), List.getD_eq_getElem?_getD, List.getElem?_replicate]
    split <;> rfl
theorem padB_beyond {z b : Nat} (h : flat.length ≤ b * z) : padB z flat b = zeroB z := by
  refine gd_ext (by rw [padB_len]; simp [zeroB]) fun i hi => ?_
  have hi : i < z := by simpa [zeroB] using hi
  rw [gd_pad hi, gd_out (by omega)]
  unfold zeroB
  rw [List.getD_eq_getElem?_getD, List.getElem?_replicate]
  split <;> rfl
def growF (flat : Blk) (u : Store) : Blk := flat ++ List.replicate (u.kept * u.head.size - flat.length) 0
def mvS (s : Store) (fs : List (List Blk)) : Store := moveS s (comeF s fs)
def mvF (s : Store) (fs : List (List Blk)) : List (List Blk) := fs.set s.head.moved (comeF s fs)
theorem Gd.come (h : Gd s fs flat) {b : Nat} (hb : b / (s.head.width + 1 - s.head.par) = s.head.moved) : (comeF s fs).getD (b % (s.head.width + 1 - s.head.par)) [] = padB s.head.size flat b := by
  have w1 := h.ok.head.width1
  have k0 : 0 < s.head.width + 1 - s.head.par := by omega
  unfold comeF comeB
  rw [show s.come1 = s.head.width + 1 - s.head.par from rfl, getD_data (Nat.mod_lt _ k0)]
  have e := Nat.div_add_mod b (s.head.width + 1 - s.head.par)
  rw [hb, Nat.mul_comm] at e
  rw [e]
  unfold comeX
  by_cases q : b < s.kept
  · rw [if_pos q]
    exact h.tells b (.inl q)
  · rw [if_neg q]
    refine (padB_beyond ?_).symm
    rw [h.len]
    exact Nat.mul_le_mul_right _ (by omega)
theorem Gd.move (h : Gd s fs flat) (gr : s.head.width < s.disks.length) : Gd (mvS s fs) (mvF s fs) (growF flat (mvS s fs)) := by
  obtain ⟨g1, g2, hm⟩ := moved_lt h.ok gr
  have w1 := h.ok.head.width1
  have hF := comeF_len h.ok fs
  have hW := comeF_wf h.ok h.ag
  have ag := move_agree h.ok gr h.ag (F := comeF s fs) (as := comeB s fs) rfl (by rw [comeB_len]; unfold Store.come1; omega) (comeB_wf h.ok h.ag)
  have ok1 : (mvS s fs).Ok := move_ok h.ok gr hW
  have k0 : 0 < s.head.width - s.head.par := by omega
  have kk : s.kept ≤ (mvS s fs).kept := by
    show s.head.rows * (s.head.width - s.head.par) ≤ s.head.rows * (moveW s - s.head.par)
    refine Nat.mul_le_mul_left _ ?_
    unfold moveW
    split <;> omega
  have fl : (growF flat (mvS s fs)).length = (mvS s fs).kept * s.head.size := by
    unfold growF
    have : s.kept * s.head.size ≤ (mvS s fs).kept * s.head.size := Nat.mul_le_mul_right _ kk
    rw [List.length_append, List.length_replicate, h.len, show (mvS s fs).head.size = s.head.size from rfl]
    omega
  refine ⟨ok1, rfl, ag, fun r hr => move_none h.ok gr hW hF h.lost h.none hr, ?_, fl, fun y hy => ?_, fun b hb => ?_⟩
  · show lostC (moveS s (comeF s fs)) ≤ _
    rw [move_lost]
    exact h.lost
  · unfold growF at hy
    rcases List.mem_append.mp hy with q | q
    · exact h.byte y q
    · rw [(List.mem_replicate.mp q).2]
      decide
  · show ((mvF s fs).getD ((mvS s fs).spotN b).1 []).getD ((mvS s fs).spotN b).2 [] = padB s.head.size _ b
    unfold growF
    rw [padB_zero]
    have gm : (mvF s fs).getD s.head.moved [] = comeF s fs := by
      unfold mvF
      rw [getD_setA, if_pos ⟨rfl, by rw [h.ag.len]; exact hm⟩]
    have gn : ∀ r, r ≠ s.head.moved → (mvF s fs).getD r [] = fs.getD r [] := fun r q => by
      unfold mvF
      rw [getD_setA, if_neg (fun c => q c.1.symm)]
    have low : b / (s.head.width + 1 - s.head.par) < s.head.moved + 1 → ((mvF s fs).getD (b / (s.head.width + 1 - s.head.par)) []).getD (b % (s.head.width + 1 - s.head.par)) [] = padB s.head.size flat b := fun q => by
      by_cases e : b / (s.head.width + 1 - s.head.par) = s.head.moved
      · rw [e, gm]
        exact h.come e
      · rw [gn _ e]
        have := h.tells b (.inr (by omega))
        rw [spot_moved (by omega)] at this
        exact this
    by_cases last : s.head.moved + 1 = s.head.rows
    · have eW : (mvS s fs).head.width = s.head.width + 1 := if_pos last
      have eM : (mvS s fs).head.moved = 0 := if_pos last
      have eP : (mvS s fs).head.par = s.head.par := rfl
      have es : (mvS s fs).spotN b = (b / (s.head.width + 1 - s.head.par), b % (s.head.width + 1 - s.head.par)) := by
        rw [spot_unmoved (by rw [eM]; exact Nat.not_lt_zero _), eW, eP]
      rw [es]
      refine low ?_
      rcases hb with q | q
      · have q : b < s.head.rows * ((mvS s fs).head.width - s.head.par) := q
        rw [eW] at q
        rw [last]
        exact Nat.div_lt_of_lt_mul (by rw [Nat.mul_comm]; exact q)
      · rw [eM] at q
        exact absurd q (Nat.not_lt_zero _)
    · have eW : (mvS s fs).head.width = s.head.width := if_neg last
      have eM : (mvS s fs).head.moved = s.head.moved + 1 := if_neg last
      have eP : (mvS s fs).head.par = s.head.par := rfl
      rw [eW, eM, eP] at hb
      by_cases q : b / (s.head.width + 1 - s.head.par) < s.head.moved + 1
      · have es : (mvS s fs).spotN b = (b / (s.head.width + 1 - s.head.par), b % (s.head.width + 1 - s.head.par)) := by
          rw [spot_moved (by rw [eW, eM, eP]; exact q), eW, eP]
        rw [es]
        exact low q
      · have es : (mvS s fs).spotN b = s.spotN b := by
          rw [spot_unmoved (by rw [eW, eM, eP]; exact q), spot_unmoved (by omega), eW, eP]
        have bk : b < s.kept := by
          rcases hb with c | c
          · have c : b < s.head.rows * ((mvS s fs).head.width - s.head.par) := c
            rw [eW] at c
            exact c
          · exact absurd c q
        have hr : (s.spotN b).1 ≠ s.head.moved := by
          rw [spot_unmoved (by omega)]
          show b / (s.head.width - s.head.par) ≠ s.head.moved
          have : b / (s.head.width + 1 - s.head.par) ≤ b / (s.head.width - s.head.par) := Nat.div_le_div_left (by omega) k0
          omega
        rw [es, gn _ hr]
        exact h.tells b (.inl bk)
theorem Gd.fill (h : Gd s fs flat) {xs : List BN} (hx : Right s fs xs) : Gd (fillS s xs) fs flat := by
  have f := fill_agree h.ag hx
  exact ⟨fill_ok h.ok h.ag hx, rfl, f, fun r hr => Nat.le_trans (none_blk s xs [] r) (h.none r hr), Nat.le_trans (Nat.le_of_eq (lost_blk s xs [])) h.lost, h.len, h.byte, h.tells⟩
theorem Gd.end (h : Gd s fs flat) {a : Nat} {told : Blk} (ha : a < flat.length) (hr : a + told.length ≤ flat.length) : a / s.head.size + nBl s.head.size a told.length ≤ s.kept := by
  have z1 := h.ok.head.size1
  have hl := h.len
  have e1 : a / s.head.size < s.kept := (Nat.div_lt_iff_lt_mul z1).mpr (by omega)
  have e2 : (a + told.length - 1) / s.head.size < s.kept := (Nat.div_lt_iff_lt_mul z1).mpr (by omega)
  unfold nBl
  omega
theorem Gd.put (h : Gd s fs flat) {a : Nat} {told : Blk} (hr : a + told.length ≤ flat.length) (hb : ∀ y ∈ told, y < 256) : ∃ gs, CVs s (s.wrote a told) ∧ (s.wrote a told).length ≤ 500 ∧ Gd ((s.wrote a told).foldl applyC s) gs (updF flat a told) := by
  by_cases t0 : told = []
  · subst t0
    refine ⟨fs, ?_, ?_, ?_⟩
    · unfold Store.wrote
      rw [if_pos rfl]
      trivial
    · unfold Store.wrote
      rw [if_pos rfl]
      exact Nat.zero_le _
    · unfold Store.wrote
      rw [if_pos rfl]
      have : updF flat a [] = flat := by
        unfold updF
        rw [List.append_nil, List.length_nil, Nat.add_zero, List.take_append_drop]
      rw [this]
      exact h
  · have hr2 : a + told.length ≤ s.kept * s.head.size := by rw [← h.len]; exact hr
    have w := h.wr t0 hr2 hb
    have c := write_cvs h.ok t0 hr2 hb fun x hx => w.known (w.rowIn hx).1
    refine ⟨fsW s fs a told, c.1, c.2, ?_⟩
    rw [w.wrote]
    exact h.write t0 hr2 hb
theorem Gd.step (h : Gd s fs flat) (gr : s.head.width < s.disks.length) : CVs s (comeC s (comeF s fs)) ∧ (comeC s (comeF s fs)).length ≤ 30 ∧ (comeC s (comeF s fs)).foldl applyC s = mvS s fs := by
  obtain ⟨g1, g2, hm⟩ := moved_lt h.ok gr
  have hF := comeF_len h.ok fs
  have hW := comeF_wf h.ok h.ag
  have z2 := h.ok.head.size2
  have w2 := h.ok.head.width2
  have bo : BOk s.disks.length s.head.rows (comeN s (comeF s fs)) := fun x hx => by
    obtain ⟨p, hp, _, rfl⟩ := mem_come.mp hx
    have := (hW _ (getD_mem hp)).1
    refine ⟨?_, hm, ?_⟩
    · show (s.head.moved + p) % (s.head.width + 1) < s.disks.length
      rw [g1]
      exact Nat.mod_lt _ (Nat.succ_pos _)
    · show ((comeF s fs).getD p []).length ≤ 16
      omega
  have nl := comeN_len (t := s) (F := comeF s fs)
  refine ⟨?_, ?_, moveS_eq s _⟩
  · rw [comeC_eq]
    exact cvs_deed bo
  · rw [comeC_eq]
    unfold deedC
    simp only [List.length_append, List.length_map, List.length_cons, List.length_nil]
    omega
theorem Gd.sc (h : Gd s fs flat) : SC s 0 := sc_ok h.ok h.j 0
theorem padB_full {z n b : Nat} (hf : flat.length = n * z) (h : b < n) : padB z flat b = cutB z flat b := by
  unfold padB
  rw [cutB_len hf h, Nat.sub_self]
  simp
theorem Gd.cut (h : Gd s fs flat) : ∀ b, b < s.kept → (fs.getD (s.spotN b).1 []).getD (s.spotN b).2 [] = cutB s.head.size flat b := fun b hb => by
  rw [h.tells b (.inl hb)]
  exact padB_full h.len hb
theorem InvG.gd {z : Szs} {m : Nat} (h : InvG z flat m t) (hz : z.Ok) (hf : flat.length = z.room) (hb : ∀ y ∈ flat, y < 256) : Gd t (z.fsG flat m) flat := by
  have w1 := hz.w1
  have ek : z.k = z.width - z.par := rfl
  have kp : t.kept = z.rows * (z.width - z.par) := by
    unfold Store.kept
    rw [h.rows, h.width, h.par]
  have hl : flat.length = t.kept * t.head.size := by
    rw [kp, h.size, hf]
    rfl
  refine ⟨h.ok, h.j, h.ag, by rw [h.rows, h.par]; exact h.none, by rw [h.par]; exact h.lost, hl, hb, fun b hb2 => ?_⟩
  by_cases q : b < t.kept
  · rw [h.tells hz hf b q]
    exact (padB_full hl q).symm
  · have q2 := hb2.resolve_left q
    have ml := moved_le h.ok
    rw [spot_moved q2]
    rw [h.width, h.par, h.moved] at q2
    have k0 : 0 < z.width + 1 - z.par := by omega
    have e : z.width + 1 - z.par = z.k + 1 := by omega
    rw [h.width, h.par, h.size]
    rw [h.moved, h.rows] at ml
    rw [fsG_get (by omega), if_pos q2]
    unfold Szs.rowG dataG
    rw [e, getD_data (Nat.mod_lt _ (Nat.succ_pos _))]
    congr 1
    have := Nat.div_add_mod b (z.k + 1)
    rw [Nat.mul_comm] at this
    exact this
end Law
set_option maxHeartbeats 1000000
namespace Law
open PySem L2 HC PyProof.Rows
theorem rot_le {w : Nat} (w0 : 0 < w) (r : Nat) (p : Nat → Bool) : ((List.range w).filter fun j => p ((r + j) % w)).length ≤ ((List.range w).filter p).length := by
  have e : ((List.range w).filter fun j => p ((r + j) % w)).length = (((List.range w).filter fun j => p ((r + j) % w)).map fun j => (r + j) % w).length := by rw [List.length_map]
  rw [e]
  refine List.Nodup.length_le_of_subset ?_ ?_
  · refine List.Pairwise.map _ (R := fun a b => a ≠ b ∧ a < w ∧ b < w) (fun a b h e => h.1 (mod_inj h.2.1 h.2.2 e)) ?_
    refine List.Pairwise.imp_of_mem (R := fun a b => a ≠ b) (fun {a b} ha hb h => ⟨h, List.mem_range.mp (List.mem_filter.mp ha).1, List.mem_range.mp (List.mem_filter.mp hb).1⟩) ?_
    exact List.Pairwise.filter _ List.nodup_range
  · intro x hx
    obtain ⟨j, hj, rfl⟩ := List.mem_map.mp hx
    obtain ⟨h1, h2⟩ := List.mem_filter.mp hj
    exact List.mem_filter.mpr ⟨List.mem_range.mpr (Nat.mod_lt _ w0), h2⟩
theorem rot_eq {w : Nat} (w0 : 0 < w) (r : Nat) (p : Nat → Bool) : ((List.range w).filter fun j => p ((r + j) % w)).length = ((List.range w).filter p).length := by
  have a := rot_le w0 r p
  have b := rot_le w0 r fun i => !p i
  have c := filter_two (fun j => p ((r + j) % w)) (List.range w)
  have d := filter_two p (List.range w)
  omega
def NoneM (s : Store) (lo hi : Nat) : Prop := ∀ c, lo ≤ c → c < hi → ¬ LostB s c
def Store.lo (s : Store) : Nat := s.head.moved * s.come1
def Store.hi (s : Store) : Nat := min (s.lo + s.come1) s.kept
section
variable {s : Store} {fs : List (List Blk)}
theorem mv_good (ok : s.Ok) (gr : s.head.width < s.disks.length) (ag : Agree s fs) : (mvS s fs).Ok ∧ (mvS s fs).journal = [] ∧ Agree (mvS s fs) (mvF s fs) ∧ lostC (mvS s fs) = lostC s ∧ (mvS s fs).disks.length = s.disks.length := by
  obtain ⟨g1, g2, hm⟩ := moved_lt ok gr
  have hF := comeF_len ok fs
  have hW := comeF_wf ok ag
  have w1 := ok.head.width1
  exact ⟨move_ok ok gr hW, rfl, move_agree ok gr ag (F := comeF s fs) (as := comeB s fs) rfl (by rw [comeB_len]; unfold Store.come1; omega) (comeB_wf ok ag), move_lost, blkF_len _ _⟩
theorem mv_later (ok : s.Ok) (gr : s.head.width < s.disks.length) (last : ¬ s.head.moved + 1 = s.head.rows) {b : Nat} (hb : s.lo + s.come1 ≤ b) (bk : b < s.kept) : (mvS s fs).spotN b = s.spotN b ∧ (LostB (mvS s fs) b ↔ LostB s b) := by
  obtain ⟨g1, g2, hm⟩ := moved_lt ok gr
  have w1 := ok.head.width1
  have k0 : 0 < s.head.width - s.head.par := by omega
  have eW : (mvS s fs).head.width = s.head.width := if_neg last
  have eM : (mvS s fs).head.moved = s.head.moved + 1 := if_neg last
  have eP : (mvS s fs).head.par = s.head.par := rfl
  have q : ¬ b / (s.head.width + 1 - s.head.par) < s.head.moved + 1 := by
    have : s.head.moved + 1 ≤ b / (s.head.width + 1 - s.head.par) := by
      rw [Nat.le_div_iff_mul_le (by omega), Nat.succ_mul]
      exact hb
    omega
  have es : (mvS s fs).spotN b = s.spotN b := by
    rw [spot_unmoved (by rw [eW, eM, eP]; exact q), spot_unmoved (by omega), eW, eP]
  have hr : (s.spotN b).1 ≠ s.head.moved := by
    rw [spot_unmoved (by omega)]
    show b / (s.head.width - s.head.par) ≠ s.head.moved
    have : b / (s.head.width + 1 - s.head.par) ≤ b / (s.head.width - s.head.par) := Nat.div_le_div_left (by omega) k0
    omega
  have hrow := (spot_in ok bk).1
  have er : (mvS s fs).row (s.spotN b).1 = s.row (s.spotN b).1 := move_row_no hm hrow hr
  refine ⟨es, ?_⟩
  unfold LostB
  rw [es, er]
  exact Iff.rfl
theorem mv_lo (last : ¬ s.head.moved + 1 = s.head.rows) : (mvS s fs).lo = s.lo + s.come1 ∧ (mvS s fs).kept = s.kept := by
  have eW : (mvS s fs).head.width = s.head.width := if_neg last
  have eM : (mvS s fs).head.moved = s.head.moved + 1 := if_neg last
  have eP : (mvS s fs).head.par = s.head.par := rfl
  refine ⟨?_, ?_⟩
  · unfold Store.lo Store.come1
    rw [eW, eM, eP, Nat.succ_mul]
  · unfold Store.kept
    rw [eW, eP]
    rfl
theorem hi_le (s : Store) : s.hi ≤ s.kept ∧ s.hi ≤ s.lo + s.come1 := by
  unfold Store.hi
  omega
theorem none_step (ok : s.Ok) (gr : s.head.width < s.disks.length) (h : NoneM s s.lo s.kept) :
    NoneM s s.lo s.hi ∧ (¬ s.head.moved + 1 = s.head.rows → NoneM (mvS s fs) (mvS s fs).lo (mvS s fs).kept) := by
  have hh := hi_le s
  refine ⟨fun c c1 c2 => h c c1 (by omega), fun last c c1 c2 => ?_⟩
  obtain ⟨e1, e2⟩ := mv_lo (fs := fs) last
  rw [e1] at c1
  rw [e2] at c2
  rw [(mv_later (fs := fs) ok gr last c1 c2).2]
  exact h c (by omega) c2
end
end Law
set_option maxHeartbeats 1000000
namespace Law
open PySem L2 HC PyProof.Rows
def Store.lostR (s : Store) (row : Nat) : Nat := ((s.disks.take (s.wide row)).filter fun k => k.isNone).length
def bareB (s : Store) (r j : Nat) : Blk := ((s.row r).getD j none).getD (zeroB s.head.size)
def bareD (s : Store) (r : Nat) : List Blk := (List.range (s.wide r - s.head.par)).map (bareB s r)
def idleB (s : Store) (r j : Nat) : Bool := ((s.row r).getD j none).isNone && (s.numN r j).isNone
def idleR (s : Store) (r : Nat) : List Nat := (List.range (s.wide r - s.head.par)).filter (idleB s r)
def idleP (s : Store) (r : Nat) : List Nat := if s.head.par < noneN (s.row r) then idleR s r else []
def datB (s : Store) (r : Nat) : List Blk := if s.head.par < noneN (s.row r) then bareD s r else dataTold s.head.par s.head.size (s.row r)
def Store.newB (s : Store) (row : Nat) (l : Pcs) : List Blk := l.foldl setPc (datB s row)
def Store.fullB (s : Store) (row : Nat) (l : Pcs) : List Blk := s.newB row l ++ parB s.head.par s.head.size (s.newB row l)
def Store.wantB (s : Store) (row : Nat) (l : Pcs) : List Nat := ((List.range (s.wide row - s.head.par)).filter fun j => decide (j ∈ idleP s row ∨ j ∈ l.map (·.1))) ++ (List.range s.head.par).map (s.wide row - s.head.par + ·)
def Store.rowB (s : Store) (row : Nat) (l : Pcs) : List BN := (s.wantB row l).filterMap (noteAt s row (s.fullB row l))
def PartB (s : Store) (row : Nat) (l : Pcs) (j : Nat) : Prop := j < s.wide row - s.head.par ∧ (s.row row).getD j none = none ∧ s.numN row j ≠ none ∧ ∀ y ∈ l, y.1 = j → y.2.2.length < s.head.size
def BareR (s : Store) (row : Nat) (l : Pcs) : Prop := s.head.par < noneN (s.row row) ∧ ∃ j, PartB s row l j
def BadR (s : Store) (row : Nat) (l : Pcs) : Prop := s.head.par < s.lostR row ∨ BareR s row l
def Store.notesB (s : Store) (a : Nat) (told : Blk) : List BN := (s.grp a told (nBl s.head.size a told.length)).flatMap fun x => s.rowB x.1 x.2
def Store.wroteB (s : Store) (a : Nat) (told : Blk) : List Chg := if told = [] then [] else deedC (s.notesB a told) s.head.width s.head.moved
theorem row_cell {s : Store} {r j : Nat} (hj : j < s.wide r) : (s.row r).getD j none = s.cell ((r + j) % s.wide r) r := row_get hj
theorem bareD_len (s : Store) (r : Nat) : (bareD s r).length = s.wide r - s.head.par := by simp [bareD]
theorem bareD_get {s : Store} {r j : Nat} (hj : j < s.wide r - s.head.par) : (bareD s r).getD j [] = bareB s r j := by
  unfold bareD
  rw [List.getD_eq_getElem?_getD, List.getElem?_map, List.getElem?_range hj]
  rfl
theorem bareD_wf {s : Store} (ok : s.Ok) (r : Nat) : WfR s.head.size (bareD s r) := fun b hb => by
  obtain ⟨j, hj, rfl⟩ := List.mem_map.mp hb
  unfold bareB
  cases e : (s.row r).getD j none with
  | none => exact ⟨by simp [zeroB], fun y hy => by have := List.eq_of_mem_replicate hy; omega⟩
  | some b =>
    refine row_wf ok r (some b) ?_ b rfl
    rw [List.getD_eq_getElem?_getD] at e
    cases e2 : (s.row r)[j]? with
    | none => rw [e2] at e; cases e
    | some o =>
      rw [e2] at e
      have e : o = some b := e
      rw [← e]
      exact List.mem_of_getElem? e2
def hitR (s : Store) (a : Nat) (told : Blk) (r : Nat) : Bool := (s.grp a told (nBl s.head.size a told.length)).any fun x => x.1 == r
theorem hitR_iff {s : Store} {a r : Nat} {told : Blk} : hitR s a told r = true ↔ ∃ x ∈ s.grp a told (nBl s.head.size a told.length), x.1 = r := by
  unfold hitR
  rw [List.any_eq_true]
  constructor
  · rintro ⟨x, hx, e⟩
    exact ⟨x, hx, of_decide_eq_true e⟩
  · rintro ⟨x, hx, e⟩
    exact ⟨x, hx, decide_eq_true e⟩
def baseF (s : Store) (fs : List (List Blk)) (a : Nat) (told : Blk) : List (List Blk) := (List.range s.head.rows).map fun r => if s.head.par < noneN (s.row r) ∧ hitR s a told r = true then bareD s r ++ parB s.head.par s.head.size (bareD s r) else fs.getD r []
variable {s : Store} {fs : List (List Blk)} {a : Nat} {told : Blk}
theorem base_get {r : Nat} (hr : r < s.head.rows) : (baseF s fs a told).getD r [] = if s.head.par < noneN (s.row r) ∧ hitR s a told r = true then bareD s r ++ parB s.head.par s.head.size (bareD s r) else fs.getD r [] := by
  unfold baseF
  rw [List.getD_eq_getElem?_getD, List.getElem?_map, List.getElem?_range hr]
  rfl
structure WrB (s : Store) (fs : List (List Blk)) (a : Nat) (told : Blk) : Prop where
  ok : s.Ok
  j : s.journal = []
  ag : Agree s fs
  good : ∀ x ∈ s.grp a told (nW s a told), ¬ BadR s x.1 x.2
  t0 : told ≠ []
  room : a + told.length ≤ s.kept * s.head.size
  byte : ∀ y ∈ told, y < 256
theorem base_bare {r : Nat} (hr : r < s.head.rows) (h : s.head.par < noneN (s.row r)) (hit : hitR s a told r = true) : (baseF s fs a told).getD r [] = bareD s r ++ parB s.head.par s.head.size (bareD s r) ∧ dat0 s (baseF s fs a told) r = bareD s r := by
  have e := base_get (s := s) (fs := fs) (a := a) (told := told) hr
  rw [if_pos ⟨h, hit⟩] at e
  refine ⟨e, ?_⟩
  unfold dat0
  rw [e, List.take_append_of_le_length (by rw [bareD_len]; exact Nat.le_refl _), List.take_of_length_le (by rw [bareD_len]; exact Nat.le_refl _)]
theorem base_full {r : Nat} (hr : r < s.head.rows) (h : ¬ (s.head.par < noneN (s.row r) ∧ hitR s a told r = true)) : (baseF s fs a told).getD r [] = fs.getD r [] ∧ dat0 s (baseF s fs a told) r = dat0 s fs r := by
  have e := base_get (s := s) (fs := fs) (a := a) (told := told) hr
  rw [if_neg h] at e
  refine ⟨e, ?_⟩
  unfold dat0
  rw [e]
theorem WrB.end (h : WrB s fs a told) : a / s.head.size + nW s a told ≤ s.kept := by
  have z1 := h.ok.head.size1
  have tp : 0 < told.length := List.length_pos_iff.mpr h.t0
  have hroom := h.room
  unfold nW nBl
  have e2 : (a + told.length - 1) / s.head.size < s.kept := (Nat.div_lt_iff_lt_mul (by omega)).mpr (by omega)
  have e3 : a / s.head.size ≤ (a + told.length - 1) / s.head.size := Nat.div_le_div_right (by omega)
  omega
theorem WrB.base (h : WrB s fs a told) {r : Nat} (hr : r < s.head.rows) : (dat0 s (baseF s fs a told) r).length = s.wide r - s.head.par ∧ WfR s.head.size (dat0 s (baseF s fs a told) r) ∧ (baseF s fs a told).getD r [] = dat0 s (baseF s fs a told) r ++ parB s.head.par s.head.size (dat0 s (baseF s fs a told) r) := by
  by_cases q : s.head.par < noneN (s.row r) ∧ hitR s a told r = true
  · obtain ⟨e1, e2⟩ := base_bare (fs := fs) hr q.1 q.2
    rw [e2, e1]
    exact ⟨bareD_len s r, bareD_wf h.ok r, rfl⟩
  · obtain ⟨e1, e2⟩ := base_full (fs := fs) hr q
    rw [e2, e1]
    exact h.ag.dat h.ok hr
theorem WrB.rowIn (h : WrB s fs a told) {x : Nat × Pcs} (hx : x ∈ s.grp a told (nW s a told)) : x.1 < s.head.rows ∧ ∀ y ∈ x.2, y.1 < s.wide x.1 - s.head.par ∧ y.2.1 + y.2.2.length ≤ s.head.size ∧ ∀ w ∈ y.2.2, w < 256 :=
  grp_pcs h.ok (a := a) h.byte (nW s a told) h.end x hx
theorem WrB.hit (h : WrB s fs a told) {x : Nat × Pcs} (hx : x ∈ s.grp a told (nW s a told)) : hitR s a told x.1 = true := hitR_iff.mpr ⟨x, hx, rfl⟩
theorem WrB.dat (h : WrB s fs a told) {x : Nat × Pcs} (hx : x ∈ s.grp a told (nW s a told)) : datB s x.1 = dat0 s (baseF s fs a told) x.1 := by
  obtain ⟨h1, h2⟩ := h.rowIn hx
  unfold datB
  by_cases q : s.head.par < noneN (s.row x.1)
  · rw [if_pos q, (base_bare (fs := fs) h1 q (h.hit hx)).2]
  · rw [if_neg q, (base_full (fs := fs) h1 (fun k => q k.1)).2, h.ag.dataT h.ok h1 (by omega)]
theorem WrB.full (h : WrB s fs a told) {x : Nat × Pcs} (hx : x ∈ s.grp a told (nW s a told)) : s.fullB x.1 x.2 = (fsW s (baseF s fs a told) a told).getD x.1 [] := by
  obtain ⟨h1, h2⟩ := h.rowIn hx
  rw [fsW_get h1, ← (grp_dat h.ok (nW s a told) x.1).1 x hx rfl]
  unfold Store.fullB Store.newB
  rw [h.dat hx]
theorem WrB.datL (h : WrB s fs a told) {r : Nat} (hr : r < s.head.rows) (i : Nat) : (datP s (baseF s fs a told) a told i r).length = s.wide r - s.head.par := by
  rw [datP_len, (h.base hr).1]
theorem WrB.want (h : WrB s fs a told) {x : Nat × Pcs} (hx : x ∈ s.grp a told (nW s a told)) {p : Nat} (hp : p ∈ s.wantB x.1 x.2) : p < s.wide x.1 := by
  have w0 := h.ok.wide_pos x.1
  rcases List.mem_append.mp hp with q | q
  · have := List.mem_range.mp (List.mem_filter.mp q).1
    omega
  · obtain ⟨i, hi, rfl⟩ := List.mem_map.mp q
    have := List.mem_range.mp hi
    omega
theorem WrB.notes (h : WrB s fs a told) {x : BN} (hx : x ∈ s.notesB a told) : ∃ r, r < s.head.rows ∧ ∃ p, p < s.wide r ∧ x = ((r + p) % s.wide r, r, ((fsW s (baseF s fs a told) a told).getD r []).getD p []) := by
  unfold Store.notesB at hx
  obtain ⟨y, hy, hx⟩ := List.mem_flatMap.mp hx
  have hy : y ∈ s.grp a told (nW s a told) := hy
  obtain ⟨h1, h2⟩ := h.rowIn hy
  unfold Store.rowB at hx
  obtain ⟨p, hp, e⟩ := List.mem_filterMap.mp hx
  rw [h.full hy] at e
  unfold noteAt at e
  split at e
  · exact ⟨y.1, h1, p, h.want hy hp, (Option.some.inj e).symm⟩
  · cases e
theorem WrB.cover (h : WrB s fs a told) {r j : Nat} (hr : r < s.head.rows) (hj : j < s.wide r) : (∃ x ∈ s.notesB a told, x.1 = (r + j) % s.wide r ∧ x.2.1 = r) ∨ s.cell ((r + j) % s.wide r) r = none ∨ s.cell ((r + j) % s.wide r) r = some (((fsW s (baseF s fs a told) a told).getD r []).getD j []) := by
  have w0 := h.ok.wide_pos r
  obtain ⟨d1, d2, d3⟩ := h.base hr
  by_cases q : ∃ y ∈ s.grp a told (nW s a told), y.1 = r
  · obtain ⟨y, hy, rfl⟩ := q
    by_cases hn : j ∈ s.wantB y.1 y.2
    · cases hs : s.disks.getD ((y.1 + j) % s.wide y.1) Option.none with
      | none =>
        right; left
        unfold Store.cell
        rw [hs]
      | some bs =>
        left
        have en : noteAt s y.1 (s.fullB y.1 y.2) j = some ((y.1 + j) % s.wide y.1, y.1, (s.fullB y.1 y.2).getD j []) := by
          unfold noteAt
          rw [hs]
          rfl
        exact ⟨((y.1 + j) % s.wide y.1, y.1, (s.fullB y.1 y.2).getD j []), List.mem_flatMap.mpr ⟨y, hy, List.mem_filterMap.mpr ⟨j, hn, en⟩⟩, rfl, rfl⟩
    · right
      have jl : j < s.wide y.1 - s.head.par := by
        by_cases c : j < s.wide y.1 - s.head.par
        · exact c
        · exact absurd (List.mem_append_right _ (List.mem_map.mpr ⟨j - (s.wide y.1 - s.head.par), List.mem_range.mpr (by omega), by show s.wide y.1 - s.head.par + (j - (s.wide y.1 - s.head.par)) = j; omega⟩)) hn
      have np : ∀ x ∈ y.2, x.1 ≠ j := fun x hx e => hn (List.mem_append_left _ (List.mem_filter.mpr ⟨List.mem_range.mpr jl, decide_eq_true (.inr (List.mem_map.mpr ⟨x, hx, e⟩))⟩))
      have e1 : ((fsW s (baseF s fs a told) a told).getD y.1 []).getD j [] = (dat0 s (baseF s fs a told) y.1).getD j [] := by
        rw [fsW_get hr, getD_left (by rw [h.datL hr]; exact jl), ← (grp_dat h.ok (nW s a told) y.1).1 y hy rfl]
        exact fold_other np
      rw [e1]
      by_cases un : s.head.par < noneN (s.row y.1)
      · rw [(base_bare (fs := fs) hr un (h.hit hy)).2, bareD_get jl]
        unfold bareB
        rw [row_cell hj]
        cases s.cell ((y.1 + j) % s.wide y.1) y.1 with
        | none => exact .inl rfl
        | some b => exact .inr rfl
      · rw [(base_full (fs := fs) hr (fun k => un k.1)).2]
        rcases h.ag.cell y.1 hr j hj with c | c
        · exact .inl c
        · right
          rw [c, (h.ag.dat h.ok hr).2.2, getD_left (by rw [(h.ag.dat h.ok hr).1]; exact jl)]
  · right
    have nh : ¬ hitR s a told r = true := fun k => q (hitR_iff.mp k)
    rw [fsW_get hr, (grp_dat h.ok (nW s a told) r).2 (fun x hx e => q ⟨x, hx, e⟩), ← d3, (base_full (fs := fs) hr (fun k => nh k.2)).1]
    exact h.ag.cell r hr j hj
theorem WrB.wf (h : WrB s fs a told) {r : Nat} (hr : r < s.head.rows) : ∀ i, a / s.head.size + i ≤ s.kept → WfR s.head.size (datP s (baseF s fs a told) a told i r)
  | 0, _ => (h.base hr).2.1
  | i + 1, hi => by
    have ok := h.ok
    unfold datP
    split
    · rename_i q
      refine setPc_wf (WrB.wf h hr i (by omega)) ?_ ?_ fun y hy => ?_
      · rw [datP_len, (h.base hr).1, ← q]
        exact (spot_in ok (show a / s.head.size + i < s.kept by omega)).2.1
      · show (a - (a / s.head.size + i) * s.head.size) + _ ≤ _
        rw [pcB_len]
        have z1 := ok.head.size1
        have e1 := Nat.div_add_mod a s.head.size
        have e2 := Nat.mod_lt a z1
        have e3 : (a / s.head.size + i) * s.head.size = s.head.size * (a / s.head.size) + i * s.head.size := by rw [Nat.add_mul, Nat.mul_comm]
        omega
      · unfold pcB at hy
        exact h.byte y (List.mem_of_mem_drop (List.mem_of_mem_take hy))
    · exact WrB.wf h hr i (by omega)
theorem WrB.form (h : WrB s fs a told) {r : Nat} (hr : r < s.head.rows) : ∃ as : List Blk, (fsW s (baseF s fs a told) a told).getD r [] = as ++ parB s.head.par s.head.size as ∧ as.length + s.head.par = s.wide r ∧ WfR s.head.size as := by
  have w0 := h.ok.wide_pos r
  exact ⟨_, fsW_get hr, by rw [h.datL hr]; omega, h.wf hr _ h.end⟩
theorem WrB.nok (h : WrB s fs a told) : ∀ x ∈ s.notesB a told, x.1 < s.disks.length ∧ x.2.1 < s.head.rows ∧ BlkOk' x.2.2 s.head.size := fun x hx => by
  obtain ⟨r, hr, p, hp, rfl⟩ := h.notes hx
  have w0 := h.ok.wide_pos r
  refine ⟨Nat.lt_of_lt_of_le (Nat.mod_lt _ (by omega)) (h.ok.wide_le r), hr, ?_⟩
  obtain ⟨as, e, l, w⟩ := h.form hr
  have pl := parB_len (n := s.head.size) (bs := as) h.ok.head.par1 h.ok.head.par2
  show BlkOk' (((fsW s (baseF s fs a told) a told).getD r []).getD p []) s.head.size
  have w2 : WfR s.head.size (as ++ parB s.head.par s.head.size as) := fun b hb => by
    rcases List.mem_append.mp hb with q | q
    · exact w b q
    · exact parB_wf w b q
  rw [e]
  exact w2 _ (getD_mem (by rw [List.length_append, pl]; omega))
theorem WrB.noted (h : WrB s fs a told) : Lie (layW s (baseF s fs a told) a told) (s.notesB a told) (some (s.head.width, s.head.moved)) ⟨s.head, s.disks, jrn (s.notesB a told) (some (s.head.width, s.head.moved))⟩ := by
  refine ⟨⟨h.ok.head, h.ok.disks, fun i n k => ?_⟩, rfl, rfl, rfl, rfl, rfl, .inr rfl, by simp [layW, fsW], fun r hr => h.form hr, fun _ x hx => ?_, fun r hr j hj => ?_⟩
  · have k : ((s.notesB a told).map noteB' ++ [Note.fin (s.notesB a told).length s.head.width s.head.moved])[i]? = some n := k
    show NoteOk s.head s.disks.length i (decide (i + 1 = ((s.notesB a told).map noteB' ++ [Note.fin (s.notesB a told).length s.head.width s.head.moved]).length)) n
    by_cases q : i < (s.notesB a told).length
    · rw [List.getElem?_append_left (by rw [List.length_map]; exact q), List.getElem?_map] at k
      obtain ⟨x, hx, rfl⟩ := Option.map_eq_some_iff.mp k
      exact h.nok x (List.mem_of_getElem? hx)
    · rw [List.getElem?_append_right (by rw [List.length_map]; omega), List.length_map] at k
      have : i - (s.notesB a told).length = 0 := by
        have := (List.getElem?_eq_some_iff.mp k).1
        simp at this
        omega
      rw [this] at k
      have k : some (Note.fin (s.notesB a told).length s.head.width s.head.moved) = some n := k
      cases k
      exact ⟨decide_eq_true (by simp; omega), by omega, h.ok.head.width1, h.ok.head.width2, h.ok.head.many⟩
  · obtain ⟨r, hr, p, hp, rfl⟩ := h.notes hx
    exact ⟨p, hp, rfl, rfl⟩
  · have hr : r < s.head.rows := hr
    have hj : j < s.wide r := hj
    rcases h.cover hr hj with c | c | c
    · exact .inl ⟨by simp, c⟩
    · exact .inr (.inl c)
    · exact .inr (.inr c)
def wroteSB (s : Store) (a : Nat) (told : Blk) : Store := ⟨s.head, blkF s.disks (s.notesB a told), []⟩
theorem WrB.agree (h : WrB s fs a told) : Agree (wroteSB s a told) (fsW s (baseF s fs a told) a told) := h.noted.agree
theorem WrB.okS (h : WrB s fs a told) : (wroteSB s a told).Ok := h.noted.okS
theorem WrB.fills (h : WrB s fs a told) {x : Nat × Pcs} (hx : x ∈ s.grp a told (nW s a told)) : noneN ((wroteSB s a told).row x.1) ≤ s.head.par := by
  by_cases un : s.head.par < noneN (s.row x.1)
  · have nb := h.good x hx
    have l0 : s.lostR x.1 ≤ s.head.par := Nat.le_of_not_lt fun k => nb (.inl k)
    have np : ∀ j, ¬ PartB s x.1 x.2 j := fun j k => nb (.inr ⟨un, j, k⟩)
    obtain ⟨h1, h2⟩ := h.rowIn hx
    have w0 := h.ok.wide_pos x.1
    have wl := h.ok.wide_le x.1
    refine Nat.le_trans ?_ l0
    rw [noneN_row]
    have e1 : s.lostR x.1 = ((List.range (s.wide x.1)).filter fun i => (s.disks.getD i none).isNone).length := (filter_range none (fun k : Disk => k.isNone) s.disks (s.wide x.1) wl).symm
    have e2 : ((List.range (s.wide x.1)).filter fun i => (s.disks.getD i none).isNone).length = ((List.range (s.wide x.1)).filter fun j => (s.disks.getD ((x.1 + j) % s.wide x.1) none).isNone).length := (rot_eq (by omega) x.1 fun i => (s.disks.getD i none).isNone).symm
    rw [e1, e2]
    refine filter_le fun j hj hc => ?_
    have hj : j < s.wide x.1 := List.mem_range.mp hj
    have hc : ((wroteSB s a told).cell ((x.1 + j) % s.wide x.1) x.1).isNone = true := hc
    have hc := Option.isNone_iff_eq_none.mp hc
    cases hs : s.disks.getD ((x.1 + j) % s.wide x.1) none with
    | none => rfl
    | some bs =>
      exfalso
      by_cases hn : j ∈ s.wantB x.1 x.2
      · have en : noteAt s x.1 (s.fullB x.1 x.2) j = some ((x.1 + j) % s.wide x.1, x.1, (s.fullB x.1 x.2).getD j []) := by
          unfold noteAt
          rw [hs]
          rfl
        have hm : ((x.1 + j) % s.wide x.1, x.1, (s.fullB x.1 x.2).getD j []) ∈ s.notesB a told := List.mem_flatMap.mpr ⟨x, hx, List.mem_filterMap.mpr ⟨j, hn, en⟩⟩
        have hl : lenD s.disks ((x.1 + j) % s.wide x.1) = some bs.length := by unfold lenD; rw [hs]; rfl
        have hmem : (some bs : Disk) ∈ s.disks := by
          rw [List.getD_eq_getElem?_getD] at hs
          cases e3 : s.disks[(x.1 + j) % s.wide x.1]? with
          | none => rw [e3] at hs; cases hs
          | some k => rw [e3] at hs; have hs : k = some bs := hs; rw [← hs]; exact List.mem_of_getElem? e3
        have hbl := (h.ok.disks _ hmem bs rfl).1
        have hc : cellD (blkF s.disks (s.notesB a told)) ((x.1 + j) % s.wide x.1) x.1 = none := hc
        have hy := blkF_yes (b := ((fsW s (baseF s fs a told) a told).getD x.1 []).getD j []) (q := x.1) (i := (x.1 + j) % s.wide x.1) (show x.1 < bs.length by rw [hbl]; exact h1) (s.notesB a told) s.disks hl ⟨_, hm, rfl, rfl⟩ fun y hy e1 e2 => by
          obtain ⟨r, hr, p, hp, rfl⟩ := h.notes hy
          have e2 : r = x.1 := e2
          subst e2
          have e1 : (x.1 + p) % s.wide x.1 = (x.1 + j) % s.wide x.1 := e1
          rw [mod_inj hp hj e1]
        rw [hy] at hc
        cases hc
      · have jl : j < s.wide x.1 - s.head.par := by
          by_cases c : j < s.wide x.1 - s.head.par
          · exact c
          · exact absurd (List.mem_append_right _ (List.mem_map.mpr ⟨j - (s.wide x.1 - s.head.par), List.mem_range.mpr (by omega), by show s.wide x.1 - s.head.par + (j - (s.wide x.1 - s.head.par)) = j; omega⟩)) hn
        have hc0 : (s.row x.1).getD j none = none := by
          rw [row_cell hj, cell_D]
          rw [cell_D] at hc
          exact blkF_some _ _ hc
        have ni : ¬ (j ∈ idleP s x.1 ∨ j ∈ x.2.map (·.1)) := fun k => hn (List.mem_append_left _ (List.mem_filter.mpr ⟨List.mem_range.mpr jl, decide_eq_true k⟩))
        refine np j ⟨jl, hc0, fun k => ni (.inl ?_), fun y hy e => absurd (List.mem_map.mpr ⟨y, hy, e⟩) fun k => ni (.inr k)⟩
        unfold idleP
        rw [if_pos un]
        refine List.mem_filter.mpr ⟨List.mem_range.mpr jl, ?_⟩
        unfold idleB
        rw [hc0, k]
        rfl
  · exact Nat.le_trans (none_blk s (s.notesB a told) [] x.1) (by omega)
theorem WrB.lost (h : WrB s fs a told) {b : Nat} (hl : LostB (wroteSB s a told) b) : LostB s b := by
  obtain ⟨h1, h2⟩ := hl
  refine ⟨Nat.lt_of_lt_of_le h1 (none_blk s (s.notesB a told) [] _), ?_⟩
  by_cases hj : (s.spotN b).2 < s.wide (s.spotN b).1
  · have h2 : ((wroteSB s a told).row (s.spotN b).1).getD (s.spotN b).2 none = none := h2
    rw [row_cell (s := wroteSB s a told) hj, cell_D] at h2
    rw [row_cell hj, cell_D]
    exact blkF_some _ _ h2
  · rw [List.getD_eq_getElem?_getD, List.getElem?_eq_none (by rw [Store.row_len]; omega)]
    rfl
theorem want_asc {row : Nat} {l : Pcs} (hl : ∀ y ∈ l, y.1 < s.wide row - s.head.par) : (s.wantB row l).Pairwise (· < ·) := by
  unfold Store.wantB
  rw [List.pairwise_append]
  refine ⟨List.Pairwise.filter _ List.pairwise_lt_range, ?_, fun x hx y hy => ?_⟩
  · rw [List.pairwise_map]
    exact List.pairwise_lt_range.imp fun h => by omega
  · have := List.mem_range.mp (List.mem_filter.mp hx).1
    obtain ⟨j, _, rfl⟩ := List.mem_map.mp hy
    omega
theorem want_lt {row : Nat} {l : Pcs} (w0 : s.head.par < s.wide row) {p : Nat} (hp : p ∈ s.wantB row l) : p < s.wide row := by
  rcases List.mem_append.mp hp with q | q
  · have := List.mem_range.mp (List.mem_filter.mp q).1
    omega
  · obtain ⟨i, hi, rfl⟩ := List.mem_map.mp q
    have := List.mem_range.mp hi
    omega
theorem grp_spot (s : Store) (a : Nat) (told : Blk) : ∀ i, ∀ x ∈ s.grp a told i, ∀ y ∈ x.2, ∃ k, k < i ∧ s.spotN (a / s.head.size + k) = (x.1, y.1) ∧ y.2 = pcB s.head.size a told (a / s.head.size + k)
  | 0, x, hx => by cases hx
  | i + 1, x, hx => fun y hy => by
    have hx : x ∈ addG (s.grp a told i) (s.spotN (a / s.head.size + i)) (pcB s.head.size a told (a / s.head.size + i)) := hx
    rcases mem_addG hx with ⟨z, hz, rfl⟩ | ⟨z, hz, rfl, e⟩ | rfl
    · obtain ⟨k, h1, h2, h3⟩ := grp_spot s a told i x hz y hy
      exact ⟨k, by omega, h2, h3⟩
    · rcases List.mem_append.mp hy with q | q
      · obtain ⟨k, h1, h2, h3⟩ := grp_spot s a told i z hz y q
        exact ⟨k, by omega, h2, h3⟩
      · rw [List.mem_singleton.mp q]
        exact ⟨i, by omega, Prod.ext e.symm rfl, rfl⟩
    · rw [List.mem_singleton.mp hy]
      exact ⟨i, by omega, rfl, rfl⟩
theorem addG_old {g : Grp} {rp : Nat × Nat} {v : Nat × Blk} {x : Nat × Pcs} (hx : x ∈ g) : ∃ x' ∈ addG g rp v, x'.1 = x.1 ∧ ∀ y ∈ x.2, y ∈ x'.2 := by
  unfold addG
  cases e : g.getLast? with
  | none => rw [List.getLast?_eq_none_iff.mp e] at hx; cases hx
  | some z =>
    simp only []
    have eg := last_split e
    split
    · rw [eg] at hx
      rcases List.mem_append.mp hx with q | q
      · exact ⟨x, List.mem_append_left _ q, rfl, fun y hy => hy⟩
      · rw [List.mem_singleton.mp q]
        exact ⟨_, List.mem_append_right _ (List.mem_singleton.mpr rfl), rfl, fun y hy => List.mem_append_left _ hy⟩
    · exact ⟨x, List.mem_append_left _ hx, rfl, fun y hy => hy⟩
theorem addG_in (g : Grp) (rp : Nat × Nat) (v : Nat × Blk) : ∃ x ∈ addG g rp v, x.1 = rp.1 ∧ (rp.2, v) ∈ x.2 := by
  unfold addG
  cases e : g.getLast? with
  | none => exact ⟨(rp.1, [(rp.2, v)]), List.mem_singleton.mpr rfl, rfl, List.mem_singleton.mpr rfl⟩
  | some z =>
    simp only []
    split
    · rename_i q
      exact ⟨(z.1, z.2 ++ [(rp.2, v)]), List.mem_append_right _ (List.mem_singleton.mpr rfl), q, List.mem_append_right _ (List.mem_singleton.mpr rfl)⟩
    · exact ⟨(rp.1, [(rp.2, v)]), List.mem_append_right _ (List.mem_singleton.mpr rfl), rfl, List.mem_singleton.mpr rfl⟩
theorem grp_hit (s : Store) (a : Nat) (told : Blk) : ∀ i k, k < i → ∃ x ∈ s.grp a told i, x.1 = (s.spotN (a / s.head.size + k)).1 ∧ ((s.spotN (a / s.head.size + k)).2, pcB s.head.size a told (a / s.head.size + k)) ∈ x.2
  | 0, k, h => absurd h (by omega)
  | i + 1, k, h => by
    by_cases q : k = i
    · subst q
      exact addG_in _ _ _
    · obtain ⟨x, hx, e, hy⟩ := grp_hit s a told i k (by omega)
      obtain ⟨x', hx', e', h'⟩ := addG_old (rp := s.spotN (a / s.head.size + i)) (v := pcB s.head.size a told (a / s.head.size + i)) hx
      exact ⟨x', hx', e'.trans e, h' _ hy⟩
theorem rowB_len (s : Store) {row : Nat} {l : Pcs} (hl : ∀ y ∈ l, y.1 < s.wide row - s.head.par) (w0 : s.head.par < s.wide row) : (s.rowB row l).length ≤ s.wide row := by
  unfold Store.rowB
  refine Nat.le_trans (List.length_filterMap_le _ _) ?_
  exact asc_len (want_asc hl) fun p hp => want_lt w0 hp
end Law
set_option maxHeartbeats 1000000
namespace Law
open PySem L2 HC PyProof.Rows
def stA (s : Store) (fs : List (List Blk)) : Nat → Store × List (List Blk)
  | 0 => (s, fs)
  | j + 1 => (mvS (stA s fs j).1 (stA s fs j).2, mvF (stA s fs j).1 (stA s fs j).2)
def chgA (s : Store) (fs : List (List Blk)) : Nat → List Chg
  | 0 => []
  | j + 1 => chgA s fs j ++ comeC (stA s fs j).1 (comeF (stA s fs j).1 (stA s fs j).2)
variable {s t : Store} {fs : List (List Blk)} {flat : Blk}
structure Mvd (s : Store) (fs : List (List Blk)) (flat : Blk) (j : Nat) : Prop where
  gd : ∃ N, Gd (stA s fs j).1 (stA s fs j).2 (flat ++ List.replicate N 0)
  cvs : CVs s (chgA s fs j)
  len : (chgA s fs j).length ≤ j * 30
  fold : (chgA s fs j).foldl applyC s = (stA s fs j).1
  many : (stA s fs j).1.disks.length = s.disks.length
  rows : (stA s fs j).1.head.rows = s.head.rows
  more : s.head.moved + j < s.head.rows → (stA s fs j).1.head.width = s.head.width ∧ (stA s fs j).1.head.moved = s.head.moved + j
  last : s.head.moved + j = s.head.rows → (stA s fs j).1.head.width = s.head.width + 1 ∧ (stA s fs j).1.head.moved = 0
theorem Gd.add (h : Gd s fs flat) (ng : ¬ s.head.width < s.disks.length) (sp : 1 ≤ s.head.spares) (w9 : s.disks.length < 10) : Gd (applyC s .add) fs flat ∧ CVs s [.add] := by
  have hm : s.disks.length = s.head.width ∧ s.head.moved = 0 := by
    rcases h.ok.head.many with q | q
    · exact q
    · omega
  obtain ⟨m1, m2⟩ := hm
  have o := h.ok.head
  have cell : ∀ i r, i < s.head.width → (applyC s .add).cell i r = s.cell i r := fun i r hi => by
    rw [cell_D, cell_D]
    unfold cellD
    rw [show (applyC s .add).disks = s.disks ++ [freshK s.head] from rfl, getD_left (show i < s.disks.length by omega)]
  have wide : ∀ r, (applyC s .add).wide r = s.wide r := fun r => rfl
  have ww : ∀ r, s.wide r = s.head.width := fun r => by
    unfold Store.wide
    rw [m2, if_neg (Nat.not_lt_zero _)]
    rfl
  have row : ∀ r, (applyC s .add).row r = s.row r := fun r => row_same (wide r) fun j hj => cell _ _ (by
    have := Nat.mod_lt (r + j) (Nat.lt_of_le_of_lt (Nat.zero_le _) hj)
    rw [ww] at this ⊢
    exact this)
  refine ⟨⟨⟨?_, fun k hk => ?_, fun i n e => ?_⟩, h.j, ⟨h.ag.len, h.ag.row, fun r hr j hj => ?_⟩, fun r hr => ?_, ?_, h.len, h.byte, h.tells⟩, ⟨sp, trivial⟩⟩
  · show (lessH s.head).Ok (s.disks ++ [freshK s.head]).length
    rw [List.length_append]
    exact ⟨o.par1, o.par2, o.size1, o.size2, o.rows1, o.rows2, o.width1, o.width2, .inr ⟨by show s.disks.length + 1 = s.head.width + 1; omega, by show s.disks.length + 1 ≤ 10; omega, moved_le h.ok⟩, (less_ok o).sp⟩
  · rcases List.mem_append.mp hk with q | q
    · exact h.ok.disks k q
    · rw [List.mem_singleton.mp q]
      exact fresh_disk
  · have e : s.journal[i]? = some n := e
    rw [h.j] at e
    simp at e
  · have hj : j < s.wide r := hj
    have c := h.ag.cell r hr j hj
    rw [wide, cell _ _ (by
      have := Nat.mod_lt (r + j) (Nat.lt_of_le_of_lt (Nat.zero_le _) hj)
      rw [ww] at this ⊢
      exact this)]
    exact c
  · rw [row]
    exact h.none r hr
  · show lostC ⟨_, s.disks ++ [freshK s.head], _⟩ ≤ _
    unfold lostC
    show ((s.disks ++ [freshK s.head]).filter Option.isNone).length ≤ _
    rw [List.filter_append]
    show (s.disks.filter Option.isNone ++ []).length ≤ _
    rw [List.append_nil]
    exact h.lost
end Law
set_option maxHeartbeats 1000000
namespace HC
open PySem L2 PyProof.Rows
end HC
set_option maxHeartbeats 1000000
namespace Law
open PySem L2 HC PyProof.Rows
instance (s : Store) (n : Nat) : Decidable (LostB s n) := by unfold LostB; exact inferInstance
variable {s : Store} {fs : List (List Blk)} {a : Nat} {told : Blk}
theorem updB_whole {o : Blk} {v : Nat × Blk} {z : Nat} (ho : o.length = z) (h1 : v.1 + v.2.length ≤ z) (h2 : z ≤ v.2.length) : updB o v = v.2 := by
  have e1 : v.1 = 0 := by omega
  have e2 : v.2.length = z := by omega
  unfold updB
  rw [e1, e2, Nat.zero_add, List.take_zero, List.nil_append, List.drop_of_length_le (by omega), List.append_nil]
theorem dat_val (ok : s.Ok) (ag : Agree s fs) {b : Nat} (hb : b < s.kept) : (dat0 s fs (s.spotN b).1).getD (s.spotN b).2 [] = valB s fs b := by
  obtain ⟨h1, h2, _⟩ := spot_in ok hb
  obtain ⟨d1, d2, d3⟩ := ag.dat ok h1
  unfold valB
  rw [d3, getD_left (by rw [d1]; exact h2)]
theorem WrB.val (h : WrB s fs a told) {b : Nat} (hb : b < s.kept) : valB (wroteSB s a told) (fsW s (baseF s fs a told) a told) b = if a / s.head.size ≤ b ∧ b < a / s.head.size + nW s a told then updB (valB s fs b) (pcB s.head.size a told b) else valB s fs b := by
  obtain ⟨h1, h2, _⟩ := spot_in h.ok hb
  have w0 := h.ok.wide_pos (s.spotN b).1
  have e0 : valB (wroteSB s a told) (fsW s (baseF s fs a told) a told) b = ((fsW s (baseF s fs a told) a told).getD (s.spotN b).1 []).getD (s.spotN b).2 [] := rfl
  rw [e0, fsW_get h1, getD_left (by rw [h.datL h1]; exact h2), datP_get h.ok (by rw [(h.base h1).1]; exact h2)]
  by_cases q : s.head.par < noneN (s.row (s.spotN b).1) ∧ hitR s a told (s.spotN b).1 = true
  · have vl := (val_wf h.ok h.ag hb).1
    rw [(base_bare (fs := fs) h1 q.1 q.2).2, bareD_get h2]
    have hc := h.ag.cell _ h1 (s.spotN b).2 (by omega)
    cases e : (s.row (s.spotN b).1).getD (s.spotN b).2 none with
    | some c =>
      have e1 : bareB s (s.spotN b).1 (s.spotN b).2 = valB s fs b := by
        unfold bareB
        rw [e]
        rw [row_cell (by omega)] at e
        rcases hc with hc | hc
        · rw [hc] at e; cases e
        · rw [hc] at e
          exact (Option.some.inj e).symm
      rw [e1]
    | none =>
      obtain ⟨x, hx, ex⟩ := hitR_iff.mp q.2
      have hx : x ∈ s.grp a told (nW s a told) := hx
      have np : ¬ PartB s x.1 x.2 (s.spotN b).2 := fun k => h.good x hx (.inr ⟨by rw [ex]; exact q.1, _, k⟩)
      have hy : ∃ y ∈ x.2, y.1 = (s.spotN b).2 ∧ s.head.size ≤ y.2.2.length := by
        refine Classical.byContradiction fun k => np ⟨by rw [ex]; exact h2, by rw [ex]; exact e, ?_, fun y hy e2 => Nat.lt_of_not_le fun k2 => k ⟨y, hy, e2, k2⟩⟩
        rw [ex, num_spot h.ok hb]
        simp
      obtain ⟨y, hy, ey, hl⟩ := hy
      obtain ⟨k, k1, k2, k3⟩ := grp_spot s a told _ x hx y hy
      have eb : a / s.head.size + k = b := spot_inj h.ok (k2.trans (Prod.ext ex ey))
      rw [eb] at k3
      rw [if_pos ⟨by omega, by omega⟩, if_pos ⟨by omega, by omega⟩]
      have hp := pcB_ok (told := told) (z := s.head.size) (a := a) (b := b) (by
        have z1 := h.ok.head.size1
        have e1 := Nat.div_add_mod a s.head.size
        have e2 := Nat.mod_lt a z1
        have e3 : b * s.head.size = s.head.size * (a / s.head.size) + k * s.head.size := by rw [← eb, Nat.add_mul, Nat.mul_comm]
        omega)
      rw [← k3] at hp ⊢
      rw [updB_whole (z := s.head.size) (by unfold bareB; rw [e]; simp [zeroB]) hp.1 hl, updB_whole (z := s.head.size) vl hp.1 hl]
  · rw [(base_full (fs := fs) h1 q).2, dat_val h.ok h.ag hb]
def flatV (s : Store) (fs : List (List Blk)) : Blk := (List.range s.kept).flatMap (valB s fs)
theorem flatV_len (ok : s.Ok) (ag : Agree s fs) : (flatV s fs).length = s.kept * s.head.size := by
  have : ∀ n, n ≤ s.kept → ((List.range n).flatMap (valB s fs)).length = n * s.head.size := fun n => by
    induction n with
    | zero => intro _; simp
    | succ n ih =>
      intro hn
      rw [List.range_succ, List.flatMap_append, List.length_append, ih (by omega), Nat.add_mul, Nat.one_mul]
      have := (val_wf ok ag (b := n) (by omega)).1
      simp [this]
  exact this _ (Nat.le_refl _)
theorem flatV_cut (ok : s.Ok) (ag : Agree s fs) {b : Nat} (hb : b < s.kept) : cutB s.head.size (flatV s fs) b = valB s fs b := by
  have gen : ∀ n, n ≤ s.kept → b < n → cutB s.head.size ((List.range n).flatMap (valB s fs)) b = valB s fs b := fun n => by
    induction n with
    | zero => intro _ h; omega
    | succ n ih =>
      intro hn hlt
      have vl : ∀ c, c < s.kept → (valB s fs c).length = s.head.size := fun c hc => (val_wf ok ag hc).1
      have len : ∀ m, m ≤ s.kept → ((List.range m).flatMap (valB s fs)).length = m * s.head.size := fun m => by
        induction m with
        | zero => intro _; simp
        | succ m ih2 =>
          intro hm
          rw [List.range_succ, List.flatMap_append, List.length_append, ih2 (by omega), Nat.add_mul, Nat.one_mul]
          simp [vl m (by omega)]
      rw [List.range_succ, List.flatMap_append]
      have e1 : List.flatMap (valB s fs) [n] = valB s fs n := by simp
      rw [e1]
      unfold cutB
      by_cases q : b < n
      · have l1 := len n (by omega)
        have l2 : (b + 1) * s.head.size ≤ n * s.head.size := Nat.mul_le_mul_right _ (by omega)
        rw [Nat.add_mul, Nat.one_mul] at l2
        rw [List.drop_append_of_le_length (by omega), List.take_append_of_le_length (by rw [List.length_drop]; omega)]
        exact ih (by omega) q
      · have eb : b = n := by omega
        subst eb
        rw [← len b (by omega), List.drop_left, List.take_of_length_le (by rw [vl b hb]; exact Nat.le_refl _)]
  exact gen _ (Nat.le_refl _) hb
theorem flat_self {z n : Nat} {flat : Blk} (h : flat.length = n * z) : (List.range n).flatMap (cutB z flat) = flat := by
  have := flat_cut z flat 0 n
  rw [Nat.zero_mul, List.drop_zero, List.take_of_length_le (by omega)] at this
  have e : (fun i => cutB z flat (0 + i)) = cutB z flat := by funext i; rw [Nat.zero_add]
  rw [e] at this
  exact this
theorem WrB.flat (h : WrB s fs a told) : flatV (wroteSB s a told) (fsW s (baseF s fs a told) a told) = updF (flatV s fs) a told := by
  have fl := flatV_len h.ok h.ag
  have z1 := h.ok.head.size1
  have tp : 0 < told.length := List.length_pos_iff.mpr h.t0
  have room : a + told.length ≤ (flatV s fs).length := by rw [fl]; exact h.room
  have ul : (updF (flatV s fs) a told).length = s.kept * s.head.size := by rw [updF_len room, fl]
  rw [← flat_self ul]
  show (List.range s.kept).flatMap (valB (wroteSB s a told) (fsW s (baseF s fs a told) a told)) = _
  have key : ∀ b, b < s.kept → valB (wroteSB s a told) (fsW s (baseF s fs a told) a told) b = cutB s.head.size (updF (flatV s fs) a told) b := fun b hb => by
    rw [h.val hb, ← padB_full ul hb, pad_upd z1 tp room, padB_full fl hb, flatV_cut h.ok h.ag hb]
    rfl
  have gen : ∀ n, n ≤ s.kept → (List.range n).flatMap (valB (wroteSB s a told) (fsW s (baseF s fs a told) a told)) = (List.range n).flatMap (cutB s.head.size (updF (flatV s fs) a told)) := fun n => by
    induction n with
    | zero => intro _; rfl
    | succ n ih =>
      intro hn
      rw [List.range_succ, List.flatMap_append, List.flatMap_append, ih (by omega)]
      congr 1
      simp [key n (by omega)]
  exact gen _ (Nat.le_refl _)
theorem piece_flat (ok : s.Ok) (ag : Agree s fs) {x m : Nat} (h : x + m ≤ s.kept * s.head.size) : pieceB s.head.size x m (valB s fs) = ((flatV s fs).drop x).take m := by
  rw [← piece_cut ok.head.size1 x m (flatV s fs)]
  by_cases m0 : m = 0
  · subst m0; rfl
  refine piece_congr fun b h1 h2 => ?_
  have := end_kept ok.head.size1 (Nat.pos_of_ne_zero m0) h
  exact (flatV_cut ok ag (by omega)).symm
theorem end_nW (z1 : 1 ≤ s.head.size) (t0 : told ≠ []) : endB s.head.size a told.length = a / s.head.size + nW s a told := by
  have tp : 0 < told.length := List.length_pos_iff.mpr t0
  have e3 : a / s.head.size ≤ (a + told.length - 1) / s.head.size := Nat.div_le_div_right (by omega)
  unfold endB nW nBl
  omega
theorem WrB.read (h : WrB s fs a told) : NoneL (wroteSB s a told) a told.length := fun _ b h1 h2 hl => by
  have z1 := h.ok.head.size1
  have h2 : b < endB s.head.size a told.length := h2
  have h1 : a / s.head.size ≤ b := h1
  rw [end_nW z1 h.t0] at h2
  obtain ⟨x, hx, e, _⟩ := grp_hit s a told (nW s a told) (b - a / s.head.size) (by omega)
  rw [show a / s.head.size + (b - a / s.head.size) = b by omega] at e
  have := h.fills hx
  rw [e] at this
  have h3 : s.head.par < noneN ((wroteSB s a told).row (s.spotN b).1) := hl.1
  omega
theorem WrB.notesL (h : WrB s fs a told) : (s.notesB a told).length ≤ 240 := by
  have gok := grp_ok h.ok a told (nW s a told)
  have hl : (s.grp a told (nW s a told)).length ≤ 24 := by
    have := asc_len gok.up (n := s.head.rows) fun q hq => (by
      obtain ⟨x, hx, rfl⟩ := List.mem_map.mp hq
      exact (h.rowIn hx).1)
    rw [List.length_map] at this
    have := h.ok.head.rows2
    omega
  have gen : ∀ g : Grp, (∀ x ∈ g, x ∈ s.grp a told (nW s a told)) → (g.flatMap fun x => s.rowB x.1 x.2).length ≤ 10 * g.length := fun g => by
    induction g with
    | nil => intro _; simp
    | cons x g ih =>
      intro hg
      rw [List.flatMap_cons, List.length_append, List.length_cons]
      have i1 := ih fun y hy => hg y (List.mem_cons_of_mem _ hy)
      have i2 := rowB_len s (fun y hy => ((h.rowIn (hg x List.mem_cons_self)).2 y hy).1) (h.ok.wide_pos x.1)
      have := h.ok.wide_ten x.1
      omega
  have := gen _ fun x hx => hx
  unfold Store.notesB
  unfold nW at hl this
  omega
theorem WrB.cvs (h : WrB s fs a told) : CVs s (s.wroteB a told) ∧ (s.wroteB a told).length ≤ 500 := by
  have nl := h.notesL
  unfold Store.wroteB
  rw [if_neg h.t0]
  have z2 := h.ok.head.size2
  refine ⟨?_, by unfold deedC; simp; omega⟩
  exact cvs_deed fun x hx => by
    obtain ⟨q1, q2, q3⟩ := h.nok x hx
    refine ⟨q1, q2, ?_⟩
    have := q3.1
    omega
end Law
namespace Law
open PySem L2 HC PyProof.Rows
end Law
set_option maxHeartbeats 1000000
namespace Law
open PySem L2 HC PyProof.Rows
structure SameL (s t : Store) : Prop where
  par : s.head.par = t.head.par
  size : s.head.size = t.head.size
  rows : s.head.rows = t.head.rows
  width : s.head.width = t.head.width
  moved : s.head.moved = t.head.moved
  many : s.disks.length = t.disks.length
variable {s t : Store} {fs : List (List Blk)} {F : Blk}
theorem SameL.wide (h : SameL s t) (r : Nat) : s.wide r = t.wide r := by
  unfold Store.wide
  rw [h.width, h.moved]
theorem SameL.kept (h : SameL s t) : s.kept = t.kept := by
  unfold Store.kept
  rw [h.rows, h.width, h.par]
theorem SameL.spot (h : SameL s t) (b : Nat) : s.spotN b = t.spotN b := by
  unfold Store.spotN
  rw [h.width, h.par, h.moved]
theorem SameL.dat (h : SameL s t) (a : Nat) (told : Blk) : ∀ i r, datP s fs a told i r = datP t fs a told i r
  | 0, r => by
    show dat0 s fs r = dat0 t fs r
    unfold dat0
    rw [h.wide, h.par]
  | i + 1, r => by
    unfold datP
    rw [SameL.dat h a told i r, h.size, h.spot]
theorem SameL.fsW (h : SameL s t) (a : Nat) (told : Blk) : fsW s fs a told = fsW t fs a told := by
  unfold Law.fsW nW
  rw [h.rows, h.size, h.par]
  exact List.map_congr_left fun r _ => by rw [h.dat]
theorem SameL.come (h : SameL s t) : comeF s fs = comeF t fs := by
  have e : comeB s fs = comeB t fs := by
    unfold comeB
    rw [show s.come1 = t.come1 by unfold Store.come1; rw [h.width, h.par], h.moved]
    refine List.map_congr_left fun i _ => ?_
    unfold comeX
    rw [h.kept, h.spot, h.size]
  unfold comeF
  rw [e, h.par, h.size]
theorem SameL.mvF (h : SameL s t) : mvF s fs = mvF t fs := by
  unfold Law.mvF
  rw [h.moved, h.come]
theorem SameL.mv (h : SameL s t) : SameL (mvS s fs) (mvS t fs) := by
  have eW : moveW s = moveW t := by unfold moveW; rw [h.moved, h.rows, h.width]
  have eM : moveM s = moveM t := by unfold moveM; rw [h.moved, h.rows]
  exact ⟨h.par, h.size, h.rows, eW, eM, by show (blkF s.disks _).length = (blkF t.disks _).length; rw [blkF_len, blkF_len]; exact h.many⟩
theorem SameL.symm (h : SameL s t) : SameL t s := ⟨h.par.symm, h.size.symm, h.rows.symm, h.width.symm, h.moved.symm, h.many.symm⟩
structure Twin (s t : Store) (fs : List (List Blk)) (F : Blk) : Prop where
  one : Gd s fs F
  two : Gd t fs F
  full : ∀ r, r < t.head.rows → ∀ j, j < t.wide r → t.cell ((r + j) % t.wide r) r ≠ none
  all : lostC t = 0
  same : SameL s t
theorem Twin.disk (h : Twin s t fs F) {i : Nat} (hi : i < t.disks.length) : (t.disks.getD i Option.none).isSome = true := by
  cases e : t.disks.getD i Option.none with
  | some _ => rfl
  | none =>
    have := h.all
    unfold lostC at this
    rw [List.length_eq_zero_iff, List.filter_eq_nil_iff] at this
    rw [List.getD_eq_getElem?_getD, List.getElem?_eq_getElem hi] at e
    have e : t.disks[i] = none := e
    exact absurd (by rw [e]; rfl) (this t.disks[i] (List.getElem_mem hi))
theorem Twin.move (h : Twin s t fs F) (gr : s.head.width < s.disks.length) : Twin (mvS s fs) (mvS t fs) (mvF s fs) (growF F (mvS s fs)) := by
  have gr2 : t.head.width < t.disks.length := by rw [← h.same.width, ← h.same.many]; exact gr
  have g1 := h.one.move gr
  have g2 := h.two.move gr2
  have sm := h.same.mv (fs := fs)
  rw [← h.same.mvF (fs := fs)] at g2
  have eg : growF F (mvS t fs) = growF F (mvS s fs) := by
    unfold growF
    rw [sm.kept, sm.size]
  rw [eg] at g2
  refine ⟨g1, g2, fun r hr j hj => ?_, ?_, sm⟩
  · obtain ⟨m1, m2, hm⟩ := moved_lt h.two.ok gr2
    have hr : r < t.head.rows := hr
    rw [show (mvS t fs).wide r = if r = t.head.moved then t.head.width + 1 else t.wide r from move_wide hm hr] at hj ⊢
    by_cases q : r = t.head.moved
    · subst q
      rw [if_pos rfl] at hj ⊢
      rw [show (mvS t fs).cell _ _ = _ from move_cell_yes h.two.ok hm (comeF_len h.two.ok fs) hj (h.disk (by rw [m1]; exact Nat.mod_lt _ (Nat.succ_pos _)))]
      exact fun c => by cases c
    · rw [if_neg q] at hj ⊢
      rw [show (mvS t fs).cell _ _ = _ from move_cell_no q]
      exact h.full r hr j hj
  · show lostC (moveS t (comeF t fs)) = 0
    rw [move_lost]
    exact h.all
theorem Twin.put (h : Twin s t fs F) {a : Nat} {told : Blk} (hr : a + told.length ≤ F.length) (hb : ∀ y ∈ told, y < 256) : ∃ gs, Twin ((s.wrote a told).foldl applyC s) ((t.wrote a told).foldl applyC t) gs (updF F a told) := by
  by_cases t0 : told = []
  · subst t0
    refine ⟨fs, ?_⟩
    unfold Store.wrote
    rw [if_pos rfl, if_pos rfl]
    have : updF F a [] = F := by
      unfold updF
      rw [List.append_nil, List.length_nil, Nat.add_zero, List.take_append_drop]
    rw [this]
    exact h
  · have r1 : a + told.length ≤ s.kept * s.head.size := by rw [← h.one.len]; exact hr
    have r2 : a + told.length ≤ t.kept * t.head.size := by rw [← h.two.len]; exact hr
    have w1 := h.one.wr t0 r1 hb
    have w2 := h.two.wr t0 r2 hb
    refine ⟨fsW s fs a told, ?_⟩
    rw [w1.wrote, w2.wrote]
    have g2 := h.two.write t0 r2 hb
    rw [← h.same.fsW (fs := fs)] at g2
    refine ⟨h.one.write t0 r1 hb, g2, fun r hr j hj c => ?_, (lost_blk t _ []).trans h.all, ⟨h.same.par, h.same.size, h.same.rows, h.same.width, h.same.moved, by show (blkF s.disks _).length = (blkF t.disks _).length; rw [blkF_len, blkF_len]; exact h.same.many⟩⟩
    rw [cell_D] at c
    exact h.full r hr j hj (blkF_some _ _ c)
theorem Twin.fill (h : Twin s t fs F) {xs : List BN} (hx : Right s fs xs) : Twin (fillS s xs) t fs F :=
  ⟨h.one.fill hx, h.two, h.full, h.all, ⟨h.same.par, h.same.size, h.same.rows, h.same.width, h.same.moved, (blkF_len xs _).trans h.same.many⟩⟩
theorem Gd.spare (h : Gd s fs F) {d : Nat} (hd : s.disks.getD d Option.none = Option.none) : Gd (applyC s (.spare d)) fs F := by
  have ag := agree_spare h.ag d
  have cl : ∀ i q, (applyC s (.spare d)).cell i q = s.cell i q := fun i q => by
    by_cases e : i = d
    · subst e
      have h1 : s.cell i q = Option.none := by unfold Store.cell; rw [hd]
      rw [h1]
      rcases cell_set (ds := s.disks) (d := i) (i := i) (q := q) (k := freshK s.head) (fun bs e o ho => by
        unfold freshK at e
        cases e
        exact (List.mem_replicate.mp ho).2) with c | c
      · exact c
      · exact (c : (applyC s (.spare i)).cell i q = s.cell i q).trans h1
    · show cellD (s.disks.set d _) i q = cellD s.disks i q
      unfold cellD
      rw [getD_setA, if_neg (fun c => e c.1.symm)]
  refine ⟨ok_spare h.ok h.j d, h.j, ag, fun r hr => ?_, ?_, h.len, h.byte, h.tells⟩
  · have : (applyC s (.spare d)).row r = s.row r := row_same rfl fun j hj => cl _ _
    rw [this]
    exact h.none r hr
  · refine Nat.le_trans ?_ h.lost
    unfold lostC
    have e1 : ((s.disks.set d (freshK s.head)).filter Option.isNone).length ≤ (s.disks.filter Option.isNone).length := by
      rw [lost_map, lost_map]
      by_cases hd2 : d < s.disks.length
      · rw [List.map_set]
        have : ∀ (xs : List Bool) (n : Nat), ((xs.set n false).filter id).length ≤ (xs.filter id).length := fun xs => by
          induction xs with
          | nil => intro n; simp
          | cons x xs ih =>
            intro n
            cases n with
            | zero => cases x <;> simp
            | succ n =>
              rw [List.set_cons_succ, List.filter_cons, List.filter_cons]
              cases x with
              | false => exact ih n
              | true => simpa using ih n
        exact this _ _
      · rw [List.set_eq_of_length_le (by omega)]
        exact Nat.le_refl _
    exact e1
end Law
set_option maxHeartbeats 1000000
namespace Law
open PySem L2 HC PyProof.Rows
def Lay.kept (L : Lay) : Nat := L.rows * (L.w - L.par)
def Lay.spot (L : Lay) (b : Nat) : Nat × Nat := if b / (L.w + 1 - L.par) < L.m then (b / (L.w + 1 - L.par), b % (L.w + 1 - L.par)) else (b / (L.w - L.par), b % (L.w - L.par))
structure Tel (L : Lay) (F : Blk) : Prop where
  len : F.length = L.kept * L.size
  byte : ∀ y ∈ F, y < 256
  tells : ∀ b, (b < L.kept ∨ b / (L.w + 1 - L.par) < L.m) → (L.fs.getD (L.spot b).1 []).getD (L.spot b).2 [] = padB L.size F b
def layS (s : Store) (fs : List (List Blk)) : Lay := ⟨s.head.par, s.head.size, s.head.rows, s.disks.length, s.head.width, s.head.moved, fs⟩
variable {L : Lay} {N : List BN} {e : JE} {s t : Store} {fs : List (List Blk)} {F : Blk}
theorem Lie.keptS (h : Lie L N e t) : (startS t N e).kept = L.kept := by
  unfold Store.kept Lay.kept
  rw [h.rowsS, h.widthS, h.parS]
theorem Lie.spotS (h : Lie L N e t) (b : Nat) : (startS t N e).spotN b = L.spot b := by
  unfold Store.spotN Lay.spot
  rw [h.widthS, h.movedS, h.parS]
  rfl
theorem Lie.gd (h : Lie L N e t) (b : Bnd L N e t L.par) (T : Tel L F) : Gd (startS t N e) L.fs F := by
  refine ⟨h.okS, Lie.jS, h.agree, fun r hr => ?_, ?_, ?_, T.byte, fun k hk => ?_⟩
  · rw [h.parS]
    exact b.none r (by rw [← h.rowsS]; exact hr)
  · rw [h.parS, lostS]
    exact b.lost
  · rw [h.keptS, h.sizeS]
    exact T.len
  · rw [h.keptS, h.widthS, h.parS, h.movedS] at hk
    rw [h.spotS, h.sizeS]
    exact T.tells k hk
theorem Gd.lie (h : Gd s fs F) : Lie (layS s fs) [] .none s :=
  ⟨h.ok, h.j, rfl, rfl, rfl, rfl, .inl ⟨rfl, rfl, rfl⟩, h.ag.len, h.ag.row, fun q => absurd rfl q, fun r hr j hj => .inr (h.ag.cell r hr j hj)⟩
theorem Gd.bnd (h : Gd s fs F) : Bnd (layS s fs) [] .none s s.head.par := ⟨h.lost, fun r hr => by rw [start_clean h.j]; exact h.none r hr⟩
theorem Gd.tel (h : Gd s fs F) : Tel (layS s fs) F := ⟨h.len, h.byte, fun b hb => by
  have := h.tells b hb
  exact this⟩
theorem Gd.notedM (h : Gd s fs F) (gr : s.head.width < s.disks.length) : Lie (layS (mvS s fs) (mvF s fs)) (comeN s (comeF s fs)) (some (moveW s, moveM s)) ⟨s.head, s.disks, jrn (comeN s (comeF s fs)) (some (moveW s, moveM s))⟩ ∧
    Bnd (layS (mvS s fs) (mvF s fs)) (comeN s (comeF s fs)) (some (moveW s, moveM s)) ⟨s.head, s.disks, jrn (comeN s (comeF s fs)) (some (moveW s, moveM s))⟩ s.head.par := by
  obtain ⟨g1, g2, hm⟩ := moved_lt h.ok gr
  have hF := comeF_len h.ok fs
  have hW := comeF_wf h.ok h.ag
  have gm := h.move gr
  have ew : ∀ r, (layS (mvS s fs) (mvF s fs)).wide r = (mvS s fs).wide r := fun r => rfl
  have ml : (mvS s fs).disks.length = s.disks.length := blkF_len _ _
  have wm : (mvS s fs).wide s.head.moved = s.head.width + 1 := by
    rw [show (mvS s fs).wide s.head.moved = _ from move_wide hm hm, if_pos rfl]
  have nt : ∀ x ∈ comeN s (comeF s fs), ∃ p, p < s.head.width + 1 ∧ x = ((s.head.moved + p) % (s.head.width + 1), s.head.moved, (comeF s fs).getD p []) := fun x hx => by
    obtain ⟨p, hp, _, rfl⟩ := mem_come.mp hx
    exact ⟨p, by rw [← hF]; exact hp, rfl⟩
  have gm0 : (mvF s fs).getD s.head.moved [] = comeF s fs := by
    unfold mvF
    rw [getD_setA, if_pos ⟨rfl, by rw [h.ag.len]; exact hm⟩]
  refine ⟨⟨⟨h.ok.head, h.ok.disks, fun i n k => ?_⟩, rfl, rfl, rfl, rfl, ml.symm, .inr rfl, gm.ag.len, gm.ag.row, fun _ x hx => ?_, fun r hr j hj => ?_⟩, h.lost, fun r hr => ?_⟩
  · have k : ((comeN s (comeF s fs)).map noteB' ++ [Note.fin (comeN s (comeF s fs)).length (moveW s) (moveM s)])[i]? = some n := k
    show NoteOk s.head s.disks.length i (decide (i + 1 = ((comeN s (comeF s fs)).map noteB' ++ [Note.fin (comeN s (comeF s fs)).length (moveW s) (moveM s)]).length)) n
    by_cases q : i < (comeN s (comeF s fs)).length
    · rw [List.getElem?_append_left (by rw [List.length_map]; exact q), List.getElem?_map] at k
      obtain ⟨x, hx, rfl⟩ := Option.map_eq_some_iff.mp k
      obtain ⟨p, hp, rfl⟩ := nt x (List.mem_of_getElem? hx)
      exact ⟨by rw [g1]; exact Nat.mod_lt _ (Nat.succ_pos _), hm, hW _ (getD_mem (by rw [hF]; exact hp))⟩
    · rw [List.getElem?_append_right (by rw [List.length_map]; omega), List.length_map] at k
      have : i - (comeN s (comeF s fs)).length = 0 := by
        have := (List.getElem?_eq_some_iff.mp k).1
        simp at this
        omega
      rw [this] at k
      have k : some (Note.fin (comeN s (comeF s fs)).length (moveW s) (moveM s)) = some n := k
      cases k
      have mh := gm.ok.head
      rw [ml] at mh
      exact ⟨decide_eq_true (by simp; omega), by omega, mh.width1, mh.width2, mh.many⟩
  · obtain ⟨p, hp, rfl⟩ := nt x hx
    rw [ew]
    refine ⟨p, by rw [wm]; exact hp, by rw [wm], ?_⟩
    show _ = ((mvF s fs).getD s.head.moved []).getD p []
    rw [gm0]
  · have hr : r < s.head.rows := hr
    rw [ew] at hj ⊢
    by_cases q : r = s.head.moved
    · subst q
      rw [wm] at hj ⊢
      cases hs : s.disks.getD ((s.head.moved + j) % (s.head.width + 1)) Option.none with
      | none =>
        right; left
        unfold Store.cell
        rw [hs]
      | some bs => exact .inl ⟨by simp, _, mem_come.mpr ⟨j, by rw [hF]; exact hj, by rw [hs]; rfl, rfl⟩, rfl, rfl⟩
    · right
      have c := gm.ag.cell r hr j hj
      rw [show (mvS s fs).cell ((r + j) % (mvS s fs).wide r) r = s.cell ((r + j) % (mvS s fs).wide r) r from move_cell_no q] at c
      exact c
  · exact gm.none r hr
theorem none_lose (s : Store) (d r : Nat) : noneN ((applyC s (.lose d)).row r) ≤ noneN (s.row r) + 1 := by
  rw [noneN_row, noneN_row]
  have wl : (applyC s (.lose d)).wide r = s.wide r := rfl
  rw [wl]
  have h1 : ((List.range (s.wide r)).filter fun j => ((applyC s (.lose d)).cell ((r + j) % s.wide r) r).isNone).length ≤ ((List.range (s.wide r)).filter fun j => (s.cell ((r + j) % s.wide r) r).isNone || decide ((r + j) % s.wide r = d)).length := by
    refine filter_le fun j _ h => ?_
    by_cases e : (r + j) % s.wide r = d
    · rw [decide_eq_true e, Bool.or_true]
    · rw [decide_eq_false e, Bool.or_false]
      have : (applyC s (.lose d)).cell ((r + j) % s.wide r) r = s.cell ((r + j) % s.wide r) r := by
        show cellD (s.disks.set d none) _ _ = cellD s.disks _ _
        unfold cellD
        rw [getD_setA, if_neg (fun c => e c.1.symm)]
      rw [← this]
      exact h
  have h2 : ∀ (xs : List Nat) (p q : Nat → Bool), (xs.filter fun j => p j || q j).length ≤ (xs.filter p).length + (xs.filter q).length := fun xs p q => by
    induction xs with
    | nil => simp
    | cons x xs ih =>
      rw [List.filter_cons, List.filter_cons, List.filter_cons]
      cases p x <;> cases q x <;> simp <;> omega
  have h3 : ((List.range (s.wide r)).filter fun j => decide ((r + j) % s.wide r = d)).length ≤ 1 := by
    have : ((List.range (s.wide r)).filter fun j => decide ((r + j) % s.wide r = d)).Pairwise (fun a b => False) := by
      refine List.Pairwise.imp_of_mem (R := fun a b => a ≠ b) (fun {a b} ha hb h => ?_) (List.Pairwise.filter _ List.nodup_range)
      obtain ⟨a1, a2⟩ := List.mem_filter.mp ha
      obtain ⟨b1, b2⟩ := List.mem_filter.mp hb
      exact h (mod_inj (List.mem_range.mp a1) (List.mem_range.mp b1) ((of_decide_eq_true a2).trans (of_decide_eq_true b2).symm))
    generalize (List.range (s.wide r)).filter (fun j => decide ((r + j) % s.wide r = d)) = xs at this
    match xs, this with
    | [], _ => exact Nat.zero_le _
    | [a], _ => exact Nat.le_refl _
    | a :: b :: xs, h => exact ((List.pairwise_cons.mp h).1 b List.mem_cons_self).elim
  have := h2 (List.range (s.wide r)) (fun j => (s.cell ((r + j) % s.wide r) r).isNone) (fun j => decide ((r + j) % s.wide r = d))
  omega
structure Dd (s : Store) (N : List BN) (q : Nat × Nat) (L' : Lay) (F' : Blk) : Prop where
  l1 : Lie L' N (some q) ⟨s.head, s.disks, jrn N (some q)⟩
  b1 : Bnd L' N (some q) ⟨s.head, s.disks, jrn N (some q)⟩ s.head.par
  tel : Tel L' F'
  len : N.length ≤ 250
theorem Gd.ddM (h : Gd s fs F) (gr : s.head.width < s.disks.length) : Dd s (comeN s (comeF s fs)) (moveW s, moveM s) (layS (mvS s fs) (mvF s fs)) (growF F (mvS s fs)) := by
  obtain ⟨a, b⟩ := h.notedM gr
  have nl := comeN_len (t := s) (F := comeF s fs)
  rw [comeF_len h.ok fs] at nl
  have w2 := h.ok.head.width2
  exact ⟨a, b, (h.move gr).tel, by omega⟩
variable {q : Nat × Nat} {L' : Lay} {F' : Blk}
theorem Dd.par (h : Dd s N q L' F') : L'.par = s.head.par := h.l1.par.symm
theorem Dd.cvs (h : Dd s N q L' F') : CVs s (deedC N q.1 q.2) := by
  refine cvs_deed fun x hx => ?_
  obtain ⟨a, b, c⟩ := h.l1.notes hx
  have z2 := h.l1.ok.head.size2
  have e1 : s.disks.length = L'.many := h.l1.many
  have e2 : s.head.rows = L'.rows := h.l1.rows
  have e3 : s.head.size = L'.size := h.l1.size
  have z2 : s.head.size ≤ 16 := z2
  exact ⟨by omega, by omega, by rw [c.1]; omega⟩
theorem Dd.fold (h : Dd s N q L' F') : (deedC N q.1 q.2).foldl applyC s = startS ⟨s.head, s.disks, jrn N (some q)⟩ N (some q) := deed_fold s N q.1 q.2
theorem Dd.gd (h : Dd s N q L' F') : Gd ((deedC N q.1 q.2).foldl applyC s) L'.fs F' := by
  rw [h.fold]
  exact h.l1.gd (by rw [h.par]; exact h.b1) h.tel
theorem lost_lose (s : Store) (d : Nat) : lostC (applyC s (.lose d)) ≤ lostC s + 1 := by
  unfold lostC
  show ((s.disks.set d none).filter Option.isNone).length ≤ _
  generalize s.disks = xs
  induction xs generalizing d with
  | nil => simp
  | cons x xs ih =>
    cases d with
    | zero =>
      rw [List.set_cons_zero, List.filter_cons, List.filter_cons]
      cases x <;> simp
    | succ d =>
      rw [List.set_cons_succ, List.filter_cons, List.filter_cons]
      have := ih d
      cases x.isNone <;> simp <;> omega
end Law
set_option maxHeartbeats 1000000
namespace Law
open PySem L2 HC PyProof.Rows
structure Gh (s : Store) (fs : List (List Blk)) (flat : Blk) : Prop where
  ok : s.Ok
  j : s.journal = []
  ag : Agree s fs
  fill : ∀ r, r < s.head.moved → noneN (s.row r) ≤ s.head.par
  tell : NoneM s s.lo s.kept
  lost : lostC s = 0
  len : flat.length = s.kept * s.head.size
  byte : ∀ y ∈ flat, y < 256
  tells : ∀ b, (b < s.kept ∨ b / (s.head.width + 1 - s.head.par) < s.head.moved) → (fs.getD (s.spotN b).1 []).getD (s.spotN b).2 [] = padB s.head.size flat b
variable {s t : Store} {fs : List (List Blk)} {flat : Blk}
theorem Gh.come (h : Gh s fs flat) {b : Nat} (hb : b / (s.head.width + 1 - s.head.par) = s.head.moved) : (comeF s fs).getD (b % (s.head.width + 1 - s.head.par)) [] = padB s.head.size flat b := by
  have w1 := h.ok.head.width1
  have k0 : 0 < s.head.width + 1 - s.head.par := by omega
  unfold comeF comeB
  rw [show s.come1 = s.head.width + 1 - s.head.par from rfl, getD_data (Nat.mod_lt _ k0)]
  have e := Nat.div_add_mod b (s.head.width + 1 - s.head.par)
  rw [hb, Nat.mul_comm] at e
  rw [e]
  unfold comeX
  by_cases q : b < s.kept
  · rw [if_pos q]
    exact h.tells b (.inl q)
  · rw [if_neg q]
    refine (padB_beyond ?_).symm
    rw [h.len]
    exact Nat.mul_le_mul_right _ (by omega)
theorem Gh.told (h : Gh s fs flat) (gr : s.head.width < s.disks.length) : (∀ b, (b < (mvS s fs).kept ∨ b / ((mvS s fs).head.width + 1 - (mvS s fs).head.par) < (mvS s fs).head.moved) → ((mvF s fs).getD ((mvS s fs).spotN b).1 []).getD ((mvS s fs).spotN b).2 [] = padB s.head.size (growF flat (mvS s fs)) b) ∧
    (growF flat (mvS s fs)).length = (mvS s fs).kept * s.head.size ∧ ∀ y ∈ growF flat (mvS s fs), y < 256 := by
  obtain ⟨g1, g2, hm⟩ := moved_lt h.ok gr
  have w1 := h.ok.head.width1
  have k0 : 0 < s.head.width - s.head.par := by omega
  have kk : s.kept ≤ (mvS s fs).kept := by
    show s.head.rows * (s.head.width - s.head.par) ≤ s.head.rows * (moveW s - s.head.par)
    refine Nat.mul_le_mul_left _ ?_
    unfold moveW
    split <;> omega
  refine ⟨fun b hb => ?_, ?_, fun y hy => ?_⟩
  rotate_left
  · unfold growF
    have : s.kept * s.head.size ≤ (mvS s fs).kept * s.head.size := Nat.mul_le_mul_right _ kk
    rw [List.length_append, List.length_replicate, h.len, show (mvS s fs).head.size = s.head.size from rfl]
    omega
  · unfold growF at hy
    rcases List.mem_append.mp hy with q | q
    · exact h.byte y q
    · rw [(List.mem_replicate.mp q).2]
      decide
  · unfold growF
    rw [padB_zero]
    have gm : (mvF s fs).getD s.head.moved [] = comeF s fs := by
      unfold mvF
      rw [getD_setA, if_pos ⟨rfl, by rw [h.ag.len]; exact hm⟩]
    have gn : ∀ r, r ≠ s.head.moved → (mvF s fs).getD r [] = fs.getD r [] := fun r q => by
      unfold mvF
      rw [getD_setA, if_neg (fun c => q c.1.symm)]
    have low : b / (s.head.width + 1 - s.head.par) < s.head.moved + 1 → ((mvF s fs).getD (b / (s.head.width + 1 - s.head.par)) []).getD (b % (s.head.width + 1 - s.head.par)) [] = padB s.head.size flat b := fun q => by
      by_cases e : b / (s.head.width + 1 - s.head.par) = s.head.moved
      · rw [e, gm]
        exact h.come e
      · rw [gn _ e]
        have := h.tells b (.inr (by omega))
        rw [spot_moved (by omega)] at this
        exact this
    by_cases last : s.head.moved + 1 = s.head.rows
    · have eW : (mvS s fs).head.width = s.head.width + 1 := if_pos last
      have eM : (mvS s fs).head.moved = 0 := if_pos last
      have eP : (mvS s fs).head.par = s.head.par := rfl
      have es : (mvS s fs).spotN b = (b / (s.head.width + 1 - s.head.par), b % (s.head.width + 1 - s.head.par)) := by
        rw [spot_unmoved (by rw [eM]; exact Nat.not_lt_zero _), eW, eP]
      rw [es]
      refine low ?_
      rcases hb with q | q
      · have q : b < s.head.rows * ((mvS s fs).head.width - s.head.par) := q
        rw [eW] at q
        rw [last]
        exact Nat.div_lt_of_lt_mul (by rw [Nat.mul_comm]; exact q)
      · rw [eM] at q
        exact absurd q (Nat.not_lt_zero _)
    · have eW : (mvS s fs).head.width = s.head.width := if_neg last
      have eM : (mvS s fs).head.moved = s.head.moved + 1 := if_neg last
      have eP : (mvS s fs).head.par = s.head.par := rfl
      rw [eW, eM, eP] at hb
      by_cases q : b / (s.head.width + 1 - s.head.par) < s.head.moved + 1
      · have es : (mvS s fs).spotN b = (b / (s.head.width + 1 - s.head.par), b % (s.head.width + 1 - s.head.par)) := by
          rw [spot_moved (by rw [eW, eM, eP]; exact q), eW, eP]
        rw [es]
        exact low q
      · have es : (mvS s fs).spotN b = s.spotN b := by
          rw [spot_unmoved (by rw [eW, eM, eP]; exact q), spot_unmoved (by omega), eW, eP]
        have bk : b < s.kept := by
          rcases hb with c | c
          · have c : b < s.head.rows * ((mvS s fs).head.width - s.head.par) := c
            rw [eW] at c
            exact c
          · exact absurd c q
        have hr : (s.spotN b).1 ≠ s.head.moved := by
          rw [spot_unmoved (by omega)]
          show b / (s.head.width - s.head.par) ≠ s.head.moved
          have : b / (s.head.width + 1 - s.head.par) ≤ b / (s.head.width - s.head.par) := Nat.div_le_div_left (by omega) k0
          omega
        rw [es, gn _ hr]
        exact h.tells b (.inl bk)
theorem all_there {s : Store} (h : lostC s = 0) (i : Nat) (hi : i < s.disks.length) : (s.disks.getD i none).isSome = true := by
  unfold lostC at h
  rw [List.length_eq_zero_iff, List.filter_eq_nil_iff] at h
  have := h _ (List.getElem_mem hi)
  rw [List.getD_eq_getElem?_getD, List.getElem?_eq_getElem hi]
  show (s.disks[i]).isSome = true
  cases e : s.disks[i] with
  | none => rw [e] at this; exact absurd rfl this
  | some _ => rfl
theorem Gh.rows (h : Gh s fs flat) (gr : s.head.width < s.disks.length) {r : Nat} (hr : r ≤ s.head.moved) : noneN ((mvS s fs).row r) ≤ s.head.par := by
  obtain ⟨g1, g2, hm⟩ := moved_lt h.ok gr
  have hF := comeF_len h.ok fs
  have hW := comeF_wf h.ok h.ag
  rcases Nat.lt_or_eq_of_le hr with q | q
  · rw [show (mvS s fs).row r = s.row r from move_row_no hm (by omega) (by omega)]
    exact h.fill r q
  · subst q
    have all : ∀ i, i < s.disks.length → (s.disks.getD i none).isSome = true := all_there h.lost
    have z : noneN ((mvS s fs).row s.head.moved) = 0 := by
      rw [noneN_row, List.length_eq_zero_iff, List.filter_eq_nil_iff]
      intro j hj
      have hj := List.mem_range.mp hj
      have ew : (mvS s fs).wide s.head.moved = s.head.width + 1 := (move_wide hm hm).trans (if_pos rfl)
      rw [ew] at hj ⊢
      rw [show (mvS s fs).cell ((s.head.moved + j) % (s.head.width + 1)) s.head.moved = some ((comeF s fs).getD j []) from move_cell_yes h.ok hm hF hj (all _ (by rw [g1]; exact Nat.mod_lt _ (Nat.succ_pos _)))]
      exact Bool.false_ne_true
    omega
theorem Gh.move (h : Gh s fs flat) (gr : s.head.width < s.disks.length) (nl : ¬ s.head.moved + 1 = s.head.rows) : Gh (mvS s fs) (mvF s fs) (growF flat (mvS s fs)) := by
  obtain ⟨m1, m2, m3, m4, m5⟩ := mv_good h.ok gr h.ag
  obtain ⟨t1, t2, t3⟩ := h.told gr
  have eM : (mvS s fs).head.moved = s.head.moved + 1 := if_neg nl
  exact ⟨m1, m2, m3, fun r hr => h.rows gr (by omega), (none_step h.ok gr h.tell).2 nl, m4.trans h.lost, t2, t3, t1⟩
theorem Gh.last (h : Gh s fs flat) (gr : s.head.width < s.disks.length) (l : s.head.moved + 1 = s.head.rows) : Gd (mvS s fs) (mvF s fs) (growF flat (mvS s fs)) ∧ lostC (mvS s fs) = 0 := by
  obtain ⟨m1, m2, m3, m4, m5⟩ := mv_good h.ok gr h.ag
  obtain ⟨t1, t2, t3⟩ := h.told gr
  have lo := m4.trans h.lost
  exact ⟨⟨m1, m2, m3, fun r hr => h.rows gr (by have hr : r < s.head.rows := hr; omega), by rw [lo]; exact Nat.zero_le _, t2, t3, t1⟩, lo⟩
structure Mvh (s : Store) (fs : List (List Blk)) (flat : Blk) (j : Nat) : Prop where
  ok : (stA s fs j).1.Ok
  gh : s.head.moved + j < s.head.rows → ∃ N, Gh (stA s fs j).1 (stA s fs j).2 (flat ++ List.replicate N 0)
  gd : s.head.moved + j = s.head.rows → (∃ N, Gd (stA s fs j).1 (stA s fs j).2 (flat ++ List.replicate N 0)) ∧ lostC (stA s fs j).1 = 0
  cvs : CVs s (chgA s fs j)
  len : (chgA s fs j).length ≤ j * 30
  fold : (chgA s fs j).foldl applyC s = (stA s fs j).1
  many : (stA s fs j).1.disks.length = s.disks.length
  rows : (stA s fs j).1.head.rows = s.head.rows
  more : s.head.moved + j < s.head.rows → (stA s fs j).1.head.width = s.head.width ∧ (stA s fs j).1.head.moved = s.head.moved + j
  last : s.head.moved + j = s.head.rows → (stA s fs j).1.head.width = s.head.width + 1 ∧ (stA s fs j).1.head.moved = 0
  size : (stA s fs j).1.head.size = s.head.size ∧ (stA s fs j).1.head.par = s.head.par
variable {told : Blk}
theorem lost_zero {s : Store} : lostC s = 0 ↔ ∀ k ∈ s.disks, k.isSome = true := by
  unfold lostC
  rw [List.length_eq_zero_iff, List.filter_eq_nil_iff]
  refine ⟨fun h k hk => ?_, fun h k hk => ?_⟩
  · have := h k hk
    cases k with
    | none => exact absurd rfl this
    | some _ => rfl
  · have := h k hk
    cases k with
    | none => cases this
    | some _ => exact Bool.false_ne_true
theorem renew (ok : s.Ok) (j : s.journal = []) (ag : Agree s fs) (all : lostC s = 0) {d : Nat} (hd : d < s.disks.length) (sp : 1 ≤ s.head.spares) :
    ∃ t, applyC (applyC s (.lose d)) (.spare d) = t ∧ t.Ok ∧ t.journal = [] ∧ Agree t fs ∧ lostC t = 0 ∧ t.disks.length = s.disks.length ∧ t.head = { s.head with spares := s.head.spares - 1 } ∧ CVs s [.lose d, .spare d] := by
  have o1 := ok_lose ok j d
  refine ⟨_, rfl, ok_spare o1 j d, j, agree_spare (agree_lose ag d) d, ?_, ?_, rfl, hd, ?_, trivial⟩
  · rw [lost_zero]
    intro k hk
    have hk : k ∈ (s.disks.set d none).set d (freshK s.head) := hk
    rw [List.set_set] at hk
    rcases List.mem_or_eq_of_mem_set hk with h | h
    · exact lost_zero.mp all k h
    · rw [h]
      rfl
  · show ((s.disks.set d none).set d _).length = _
    rw [List.length_set, List.length_set]
  · refine ⟨?_, sp⟩
    show d < (s.disks.set d none).length
    rw [List.length_set]
    exact hd
theorem Gh.read (h : Gh s fs flat) {b : Nat} (hb : b < s.kept) : ¬ LostB s b := fun hl => by
  by_cases q : b / (s.head.width + 1 - s.head.par) < s.head.moved
  · have h1 := h.fill _ q
    have h2 := hl.1
    rw [spot_moved q] at h2
    exact absurd h2 (Nat.not_lt_of_le h1)
  · have w1 := h.ok.head.width1
    refine h.tell b ?_ hb hl
    have := (Nat.le_div_iff_mul_le (by omega)).mp (Nat.le_of_not_lt q)
    exact this
theorem Gh.val (h : Gh s fs flat) : ∀ b, b < s.kept → valB s fs b = cutB s.head.size flat b := fun b hb => (h.tells b (.inl hb)).trans (padB_full h.len hb)
theorem read_all (ok : s.Ok) (ag : Agree s fs) (vl : ∀ b, b < s.kept → valB s fs b = cutB s.head.size flat b) (fl : flat.length = s.kept * s.head.size) : pieceB s.head.size 0 flat.length (valB s fs) = flat := by
  have e : flatV s fs = flat := by
    unfold flatV
    rw [List.flatMap_def, List.map_congr_left (fun b hb => vl b (List.mem_range.mp hb)), ← List.flatMap_def]
    exact flat_self fl
  rw [piece_flat ok ag (by omega), e, List.drop_zero, List.take_length]
theorem Gd.read (h : Gd s fs flat) : pieceB s.head.size 0 flat.length (valB s fs) = flat := read_all h.ok h.ag h.cut h.len
structure Loses (s t : Store) (fs : List (List Blk)) (i : Nat) : Prop where
  ok : t.Ok
  j : t.journal = []
  head : t.head = s.head
  many : t.disks.length = s.disks.length
  ag : Agree t fs
  lost : lostC t ≤ i
  fill : ∀ r, r < s.head.rows → noneN (t.row r) ≤ i
theorem Loses.lose (h : Loses s t fs i) (d : Nat) : Loses s (applyC t (.lose d)) fs (i + 1) :=
  ⟨ok_lose h.ok h.j d, h.j, h.head, (List.length_set ..).trans h.many, agree_lose h.ag d, Nat.le_trans (lost_lose t d) (Nat.succ_le_succ h.lost), fun r hr => Nat.le_trans (none_lose t d r) (Nat.succ_le_succ (h.fill r hr))⟩
theorem Loses.gd (h : Loses s t fs i) (g : Gd s fs flat) (hi : i ≤ s.head.par) : Gd t fs flat := by
  obtain ⟨hd, dk, js⟩ := t
  obtain ⟨ok, j, hh, many, ag, lost, fill⟩ := h
  have hh : hd = s.head := hh
  subst hh
  exact ⟨ok, j, ag, fun r hr => Nat.le_trans (fill r hr) hi, Nat.le_trans lost hi, g.len, g.byte, g.tells⟩
structure Renews (s t : Store) (fs : List (List Blk)) (i : Nat) : Prop where
  ok : t.Ok
  j : t.journal = []
  head : t.head = { s.head with spares := s.head.spares - i }
  many : t.disks.length = s.disks.length
  ag : Agree t fs
  lost : lostC t = 0
theorem Renews.put (h : Renews s t fs i) {d : Nat} (hd : d < s.disks.length) (hs : i < s.head.spares) : ∃ u, [Chg.lose d, .spare d].foldl applyC t = u ∧ CVs t [.lose d, .spare d] ∧ Renews s u fs (i + 1) := by
  have sp : t.head.spares = s.head.spares - i := by rw [h.head]
  obtain ⟨u, e, u1, u2, u3, u4, u5, u6, cv⟩ := renew h.ok h.j h.ag h.lost (d := d) (by rw [h.many]; exact hd) (by omega)
  refine ⟨u, e, cv, u1, u2, ?_, u5.trans h.many, u3, u4⟩
  rw [u6, h.head]
  show ({ s.head with spares := s.head.spares - i - 1 } : Head) = _
  rw [Nat.sub_sub]
theorem Renews.spot (h : Renews s t fs i) (b : Nat) : t.spotN b = s.spotN b := by
  unfold Store.spotN
  rw [h.head]
theorem Renews.kept (h : Renews s t fs i) : t.kept = s.kept := by
  unfold Store.kept
  rw [h.head]
theorem asc_eq : ∀ {xs ys : List Nat}, xs.Pairwise (· < ·) → ys.Pairwise (· < ·) → (∀ a, a ∈ xs ↔ a ∈ ys) → xs = ys
  | [], [], _, _, _ => rfl
  | [], y :: ys, _, _, h => absurd ((h y).mpr (List.mem_cons_self ..)) (by simp)
  | x :: xs, [], _, _, h => absurd ((h x).mp (List.mem_cons_self ..)) (by simp)
  | x :: xs, y :: ys, h1, h2, h => by
    rw [List.pairwise_cons] at h1 h2
    have e : x = y := by
      rcases List.mem_cons.mp ((h x).mp (List.mem_cons_self ..)) with q | q
      · exact q
      · rcases List.mem_cons.mp ((h y).mpr (List.mem_cons_self ..)) with q2 | q2
        · exact q2.symm
        · have := h1.1 y q2
          have := h2.1 x q
          omega
    subst e
    rw [asc_eq h1.2 h2.2 fun a => ?_]
    refine ⟨fun q => ?_, fun q => ?_⟩
    · rcases List.mem_cons.mp ((h a).mp (List.mem_cons_of_mem _ q)) with c | c
      · have := h1.1 a q; omega
      · exact c
    · rcases List.mem_cons.mp ((h a).mpr (List.mem_cons_of_mem _ q)) with c | c
      · have := h2.1 a q; omega
      · exact c
end Law
set_option maxHeartbeats 1000000
namespace Law
open PySem L2 HC PyProof.Rows
def plR (s : Store) (bs : List Nat) (r : Nat) : List Nat := (List.range (s.wide r - s.head.par)).filter fun j => match s.numN r j with | some n => decide (n ∈ bs) | none => false
def rowsW (s : Store) (bs : List Nat) : List (Nat × List Nat) := ((List.range s.head.rows).filter fun r => decide (plR s bs r ≠ [])).map fun r => (r, plR s bs r)
def Store.grn (s : Store) (bs : List Nat) : Grp := bs.foldl (fun g b => addG g (s.spotN b) (0, [])) []
def plN (l : Pcs) : List Dv := l.map fun x => dn x.1
structure GN (M : Ms) (f : Addr) (g : Grp) (as : List Addr) : Prop where
  len : as.length = g.length
  nd : as.Nodup
  nf : f ∉ as
  f : M f = some (.dic (grD g as))
  c : ∀ (i : Nat) (x : Nat × Pcs) (a : Addr), g[i]? = some x → as[i]? = some a → M a = some (.lst (plN x.2))
theorem GN.sub {M M' : Ms} {f : Addr} {g : Grp} {as : List Addr} (h : GN M f g as) (s : Sub M M') : GN M' f g as := ⟨h.len, h.nd, h.nf, s _ _ h.f, fun i x a e e2 => s _ _ (h.c i x a e e2)⟩
theorem GN.mem {M : Ms} {f : Addr} {g : Grp} {as : List Addr} (h : GN M f g as) {a : Addr} (ha : a ∈ as) : ∃ c, M a = some c := by
  obtain ⟨i, hi, e⟩ := List.mem_iff_getElem.mp ha
  have hg : i < g.length := by rw [← h.len]; exact hi
  exact ⟨_, h.c i g[i] a (List.getElem?_eq_getElem hg) (by rw [List.getElem?_eq_getElem hi, e])⟩
theorem GN.last {M : Ms} {f : Addr} {g : Grp} {as : List Addr} (h : GN M f g as) {x : Nat × Pcs} (e : g.getLast? = some x) : ∃ g' as' a, g = g' ++ [x] ∧ as = as' ++ [a] ∧ as'.length = g'.length := by
  have eg := last_split e
  have l := h.len
  have l2 : as ≠ [] := fun q => by
    rw [q, eg] at l
    simp at l
  refine ⟨g.dropLast, as.dropLast, as.getLast l2, eg, (List.dropLast_concat_getLast l2).symm, by rw [List.length_dropLast, List.length_dropLast, l]⟩
theorem GN.put {M : Ms} {f a : Addr} {g : Grp} {as : List Addr} {x : Nat × Pcs} {y : Nat × Nat × Blk} (h : GN M f (g ++ [x]) (as ++ [a])) (l : as.length = g.length) : GN (mup M a (.lst (plN (x.2 ++ [y])))) f (g ++ [(x.1, x.2 ++ [y])]) (as ++ [a]) := by
  have nf : f ≠ a := fun e => h.nf (by rw [e]; simp)
  refine ⟨by simp [l], h.nd, h.nf, ?_, fun i z b e e2 => ?_⟩
  · rw [mup_ne nf, h.f, grD_append l, grD_append l]
  · by_cases hi : i < g.length
    · rw [List.getElem?_append_left hi] at e
      rw [List.getElem?_append_left (by omega)] at e2
      have ba : b ≠ a := fun q => by
        subst q
        have := List.nodup_append.mp h.nd
        exact this.2.2 b (List.mem_of_getElem? e2) b (by simp) rfl
      rw [mup_ne ba]
      exact h.c i z b (by rw [List.getElem?_append_left hi]; exact e) (by rw [List.getElem?_append_left (by omega)]; exact e2)
    · have hi2 : i = g.length := by
        have := (List.getElem?_eq_some_iff.mp e).1
        simp at this
        omega
      subst hi2
      rw [List.getElem?_append_right (Nat.le_refl _), Nat.sub_self] at e
      rw [← l, List.getElem?_append_right (Nat.le_refl _), Nat.sub_self] at e2
      cases e
      cases e2
      exact mup_same
theorem GN.more {M : Ms} {f p : Addr} {g : Grp} {as : List Addr} {x : Nat × Pcs} {c : Cell} (h : GN M f g as) (hp : M p = some c) (np : p ∉ as) (pf : f ≠ p) : GN (mup (mup M f (.dic (grD g as ++ [(.inl (x.1 : Int), .ref p)]))) p (.lst (plN x.2))) f (g ++ [x]) (as ++ [p]) := by
  refine ⟨by simp [h.len], ?_, ?_, ?_, fun i z b e e2 => ?_⟩
  · rw [List.nodup_append]
    exact ⟨h.nd, by simp, fun a ha b hb e => np (by have : b = p := by simpa using hb
                                                    rw [← this, ← e]; exact ha)⟩
  · intro q
    rcases List.mem_append.mp q with q | q
    · exact h.nf q
    · exact pf (by simpa using q)
  · rw [mup_ne pf, mup_same, grD_append h.len]
  · by_cases hi : i < g.length
    · rw [List.getElem?_append_left hi] at e
      rw [List.getElem?_append_left (by rw [h.len]; exact hi)] at e2
      have hb := List.mem_of_getElem? e2
      rw [mup_ne (show b ≠ p from fun q => np (by rw [← q]; exact hb)), mup_ne (show b ≠ f from fun q => h.nf (by rw [← q]; exact hb))]
      exact h.c i z b e e2
    · have hi2 : i = g.length := by
        have := (List.getElem?_eq_some_iff.mp e).1
        simp at this
        omega
      subst hi2
      rw [List.getElem?_append_right (Nat.le_refl _), Nat.sub_self] at e
      rw [← h.len, List.getElem?_append_right (Nat.le_refl _), Nat.sub_self] at e2
      cases e
      cases e2
      exact mup_same
variable {s : Store}
theorem grn_snoc (bs : List Nat) (b : Nat) : s.grn (bs ++ [b]) = addG (s.grn bs) (s.spotN b) (0, []) := by
  unfold Store.grn
  rw [List.foldl_append]
  rfl
theorem grn_ok (ok : s.Ok) : ∀ (bs : List Nat) (b : Nat), (bs ++ [b]).Pairwise (· < ·) → GrpOk (s.grn bs) (s.spotN b) := fun bs => by
  induction hn : bs.length generalizing bs with
  | zero => intro b _; rw [List.length_eq_zero_iff.mp hn]; exact .nil _
  | succ n ih =>
    intro b hp
    rcases List.eq_nil_or_concat bs with e | ⟨cs, c, e⟩
    · rw [e] at hn; cases hn
    · rw [List.concat_eq_append] at e
      subst e
      rw [grn_snoc]
      have hl : cs.length = n := by simpa using hn
      have h2 := (List.pairwise_append.mp hp)
      exact (ih cs hl c h2.1).step (spot_mono ok (h2.2.2 c (by simp) b (by simp)))
theorem grn_fin (ok : s.Ok) {bs : List Nat} (hp : bs.Pairwise (· < ·)) : ∃ rp, GrpOk (s.grn bs) rp := by
  rcases List.eq_nil_or_concat bs with e | ⟨cs, c, e⟩
  · subst e; exact ⟨(0, 0), .nil _⟩
  · rw [List.concat_eq_append] at e
    subst e
    rw [grn_snoc]
    exact ⟨((s.spotN c).1 + 1, 0), (grn_ok ok cs c hp).step (.inl (Nat.lt_succ_self _))⟩
theorem addG_back {g : Grp} {rp : Nat × Nat} {v : Nat × Blk} {x : Nat × Pcs} {y : Nat × Nat × Blk} (hx : x ∈ addG g rp v) (hy : y ∈ x.2) : (x.1 = rp.1 ∧ y = (rp.2, v)) ∨ ∃ x' ∈ g, x'.1 = x.1 ∧ y ∈ x'.2 := by
  unfold addG at hx
  cases e : g.getLast? with
  | none =>
    rw [e] at hx
    rw [List.mem_singleton.mp hx] at hy ⊢
    exact .inl ⟨rfl, List.mem_singleton.mp hy⟩
  | some z =>
    rw [e] at hx
    have hz : z ∈ g := by rw [last_split e]; simp
    simp only [] at hx
    split at hx
    · rename_i q
      rcases List.mem_append.mp hx with h | h
      · exact .inr ⟨x, List.dropLast_subset _ h, rfl, hy⟩
      · rw [List.mem_singleton.mp h] at hy ⊢
        rcases List.mem_append.mp hy with h2 | h2
        · exact .inr ⟨z, hz, rfl, h2⟩
        · exact .inl ⟨q, List.mem_singleton.mp h2⟩
    · rcases List.mem_append.mp hx with h | h
      · exact .inr ⟨x, h, rfl, hy⟩
      · rw [List.mem_singleton.mp h] at hy ⊢
        exact .inl ⟨rfl, List.mem_singleton.mp hy⟩
theorem grn_hit : ∀ (bs : List Nat) (b : Nat), b ∈ bs → ∃ x ∈ s.grn bs, x.1 = (s.spotN b).1 ∧ ((s.spotN b).2, (0, [])) ∈ x.2 := fun bs => by
  induction hn : bs.length generalizing bs with
  | zero => intro b hb; rw [List.length_eq_zero_iff.mp hn] at hb; cases hb
  | succ n ih =>
    intro b hb
    rcases List.eq_nil_or_concat bs with e | ⟨cs, c, e⟩
    · rw [e] at hn; cases hn
    · rw [List.concat_eq_append] at e
      subst e
      rw [grn_snoc]
      rcases List.mem_append.mp hb with h | h
      · obtain ⟨x, h1, h2, h3⟩ := ih cs (by simpa using hn) b h
        obtain ⟨x', q1, q2, q3⟩ := addG_old (rp := s.spotN c) (v := (0, [])) h1
        exact ⟨x', q1, q2.trans h2, q3 _ h3⟩
      · rw [List.mem_singleton.mp h]
        exact addG_in _ _ _
theorem grn_from : ∀ (bs : List Nat), ∀ x ∈ s.grn bs, ∀ y ∈ x.2, ∃ b ∈ bs, s.spotN b = (x.1, y.1) ∧ y.2 = (0, []) := fun bs => by
  induction hn : bs.length generalizing bs with
  | zero => intro x hx; rw [List.length_eq_zero_iff.mp hn] at hx; cases hx
  | succ n ih =>
    intro x hx y hy
    rcases List.eq_nil_or_concat bs with e | ⟨cs, c, e⟩
    · rw [e] at hn; cases hn
    · rw [List.concat_eq_append] at e
      subst e
      rw [grn_snoc] at hx
      rcases addG_back hx hy with ⟨h1, h2⟩ | ⟨x', h1, h2, h3⟩
      · exact ⟨c, by simp, by rw [h1, h2], by rw [h2]⟩
      · obtain ⟨b, q1, q2, q3⟩ := ih cs (by simpa using hn) x' h1 y h3
        exact ⟨b, List.mem_append_left _ q1, by rw [q2, h2], q3⟩
theorem plR_mem {bs : List Nat} {r j : Nat} : j ∈ plR s bs r ↔ ∃ n, s.numN r j = some n ∧ n ∈ bs := by
  unfold plR
  rw [List.mem_filter]
  constructor
  · rintro ⟨_, h⟩
    cases e : s.numN r j with
    | none => rw [e] at h; cases h
    | some n => rw [e] at h; exact ⟨n, rfl, of_decide_eq_true h⟩
  · rintro ⟨n, e, h⟩
    refine ⟨?_, by rw [e]; exact decide_eq_true h⟩
    rw [List.mem_range]
    unfold Store.numN at e
    split at e
    · cases e
    · omega
theorem plR_asc (bs : List Nat) (r : Nat) : (plR s bs r).Pairwise (· < ·) := List.Pairwise.filter _ List.pairwise_lt_range
theorem plR_lt {bs : List Nat} {r j : Nat} (h : j ∈ plR s bs r) : j < s.wide r - s.head.par := List.mem_range.mp (List.mem_filter.mp h).1
theorem grn_rows (ok : s.Ok) {bs : List Nat} (hp : bs.Pairwise (· < ·)) (hk : ∀ b ∈ bs, b < s.kept) : (s.grn bs).map (fun x => (x.1, x.2.map (·.1))) = rowsW s bs := by
  obtain ⟨rp, g⟩ := grn_fin ok hp
  have spot : ∀ b ∈ bs, s.numN (s.spotN b).1 (s.spotN b).2 = some b := fun b hb => num_spot ok (hk b hb)
  have cell : ∀ x ∈ s.grn bs, x.2.map (·.1) = plR s bs x.1 := fun x hx => by
    refine asc_eq (g.pl x hx) (plR_asc _ _) fun j => ⟨fun h => ?_, fun h => ?_⟩
    · obtain ⟨y, hy, rfl⟩ := List.mem_map.mp h
      obtain ⟨b, hb, e, _⟩ := grn_from bs x hx y hy
      have := spot b hb
      rw [e] at this
      exact plR_mem.mpr ⟨b, this, hb⟩
    · obtain ⟨n, e, hn⟩ := plR_mem.mp h
      obtain ⟨_, e2⟩ := num_some e
      obtain ⟨x', h1, h2, h3⟩ := grn_hit bs n hn
      rw [e2] at h2 h3
      have : x' = x := by
        have u := g.up
        obtain ⟨i, hi, ei⟩ := List.mem_iff_getElem.mp h1
        obtain ⟨i', hi', ei'⟩ := List.mem_iff_getElem.mp hx
        have : i = i' := by
          rcases Nat.lt_trichotomy i i' with q | q | q
          · have := List.pairwise_iff_getElem.mp u i i' (by simpa using hi) (by simpa using hi') q
            simp only [List.getElem_map, ei, ei'] at this
            omega
          · exact q
          · have := List.pairwise_iff_getElem.mp u i' i (by simpa using hi') (by simpa using hi) q
            simp only [List.getElem_map, ei, ei'] at this
            omega
        subst this
        rw [← ei, ← ei']
      subst this
      exact List.mem_map.mpr ⟨_, h3, rfl⟩
  have keys : (s.grn bs).map (·.1) = (List.range s.head.rows).filter fun r => decide (plR s bs r ≠ []) := by
    refine asc_eq g.up (List.Pairwise.filter _ List.pairwise_lt_range) fun r => ⟨fun h => ?_, fun h => ?_⟩
    · obtain ⟨x, hx, rfl⟩ := List.mem_map.mp h
      have ne := g.ne x hx
      rw [List.mem_filter, List.mem_range]
      obtain ⟨y, hy⟩ := List.exists_mem_of_ne_nil _ ne
      obtain ⟨b, hb, e, _⟩ := grn_from bs x hx y hy
      refine ⟨?_, decide_eq_true fun e0 => ?_⟩
      · have := (spot_in ok (hk b hb)).1
        rw [e] at this
        exact this
      · rw [← cell x hx] at e0
        exact ne (List.map_eq_nil_iff.mp e0)
    · obtain ⟨h1, h2⟩ := List.mem_filter.mp h
      obtain ⟨j, hj⟩ := List.exists_mem_of_ne_nil _ (of_decide_eq_true h2)
      obtain ⟨n, e, hn⟩ := plR_mem.mp hj
      obtain ⟨_, e2⟩ := num_some e
      obtain ⟨x', q1, q2, q3⟩ := grn_hit bs n hn
      rw [e2] at q2
      exact List.mem_map.mpr ⟨x', q1, q2⟩
  unfold rowsW
  rw [← keys, List.map_map]
  exact List.map_congr_left fun x hx => by rw [cell x hx]; rfl
end Law
namespace Law
open PySem L2 HC PyProof.Rows
theorem grD_get : ∀ {g : Grp} {as : List Addr} {i : Nat} {x : Nat × Pcs} {a : Addr}, (g.map (·.1)).Pairwise (· < ·) → as.length = g.length → g[i]? = some x → as[i]? = some a → getK (grD g as) (.inl (x.1 : Int)) = some (.ref a)
  | [], as, i, x, a, _, _, hx, _ => by cases hx
  | y :: g, [], i, x, a, _, hl, _, _ => by cases hl
  | y :: g, b :: as, 0, x, a, _, _, hx, ha => by
    cases hx
    cases ha
    simp [grD, getK]
  | y :: g, b :: as, i + 1, x, a, hu, hl, hx, ha => by
    have hx : g[i]? = some x := hx
    have ha : as[i]? = some a := ha
    rw [List.map_cons, List.pairwise_cons] at hu
    have ne : y.1 ≠ x.1 := Nat.ne_of_lt (hu.1 _ (List.mem_map.mpr ⟨x, List.mem_of_getElem? hx, rfl⟩))
    have ih := grD_get hu.2 (by simpa using hl) hx ha
    show getK ((.inl (y.1 : Int), .ref b) :: grD g as) _ = _
    unfold getK at ih ⊢
    rw [List.find?_cons_of_neg (by simp; omega)]
    exact ih
end Law
set_option maxHeartbeats 1000000
namespace Law
open PySem L2 HC PyProof.Rows
def dkN (s : Store) (r j : Nat) : Nat := (r + j) % s.wide r
def keptP (s : Store) (r : Nat) : List Nat := ((List.range s.head.par).map (s.wide r - s.head.par + ·)).filter fun j => (s.disks.getD (dkN s r j) none).isSome
def restP (s : Store) (r : Nat) (W : List Nat) : List Nat := (List.range (s.wide r - s.head.par)).filter fun j => decide (j ∉ W)
def AllIn (r : Row) (L : List Nat) : Bool := L.all fun j => (r.getD j none).isSome
def waysL (r : Row) (rest WK : List Nat) (many : Nat) : List (List Nat) := [(known r).take many] ++ (if AllIn r WK = true then [WK] else []) ++ (if AllIn r rest = true then [rest] else [])
def WayIn (r : Row) (rest WK : List Nat) (many : Nat) (L : List Nat) : Prop := L ∈ waysL r rest WK many ∧ ∀ L' ∈ waysL r rest WK many, L.length ≤ L'.length
def ReadL (s : Store) (r : Nat) (W L : List Nat) : Prop := if keptP s r = [] then L = [] else if s.head.par < noneN (s.row r) then L = (restP s r W).filter fun j => ((s.row r).getD j none).isSome else WayIn (s.row r) (restP s r W) (W ++ keptP s r) (s.wide r - s.head.par) L
structure PlanI (s : Store) (rw : List (Nat × List Nat)) (ps : List (List Nat × List Nat)) : Prop where
  len : ps.length = rw.length
  read : ∀ (k : Nat) (x : Nat × List Nat) (p : List Nat × List Nat), rw[k]? = some x → ps[k]? = some p → ReadL s x.1 x.2 p.1 ∧ p.2.Perm (p.1.map (dkN s x.1)) ∧ p.2.Pairwise (· ≤ ·)
end Law
namespace Law
open PySem L2 HC PyProof.Rows
theorem keysD_nats : ∀ L : List Nat, keysD (L.map fun n => dn n) = some (L.map fun (n : Nat) => (.inl (n : Int) : Key))
  | [] => rfl
  | n :: L => by
    have ih := keysD_nats L
    show keysD (dn n :: L.map fun n => dn n) = _
    simp [keysD, keyD, ih]
theorem memK_nats (j : Nat) (L : List Nat) : memK (.inl (j : Int)) (L.map fun (n : Nat) => (.inl (n : Int) : Key)) = decide (j ∈ L) := by
  unfold memK
  rw [Bool.eq_iff_iff, List.any_eq_true, decide_eq_true_iff]
  constructor
  · rintro ⟨x, hx, h⟩
    obtain ⟨n, hn, rfl⟩ := List.mem_map.mp hx
    have := Sum.inl.inj (of_decide_eq_true h)
    rw [show j = n by omega]
    exact hn
  · intro h
    exact ⟨_, List.mem_map.mpr ⟨j, h, rfl⟩, decide_eq_true rfl⟩
end Law
namespace Law
open PySem L2 HC PyProof.Rows
end Law
namespace Law
end Law
set_option maxHeartbeats 1000000
namespace Law
open PySem L2 HC PyProof.Rows
def ndV (n : NdT) : Dv := .tup [dn n.1, .tup (n.2.1.map fun d => dn d), dn n.2.2]
def ndsV (N : List NdT) : Dv := .rol (N.map ndV)
def spF (N : List NdT) (lr lo : Addr) : List (Str × Dv) := [(("needs" : Str), ndsV N), (("reads" : Str), .ref lr), (("loads" : Str), .ref lo)]
def dnsV (l : List Nat) : List Dv := l.map fun d => dn d
structure SpAt (M0 M : Ms) (p lr lo : Addr) (as : List Addr) (N : List NdT) (S : SprS) : Prop where
  sub : Sub M0 M
  p0 : M0 p = none
  r0 : M0 lr = none
  o0 : M0 lo = none
  a0 : ∀ a ∈ as, M0 a = none
  ro : lr ≠ lo
  ra : ∀ a ∈ as, a ≠ lr ∧ a ≠ lo
  nd : as.Nodup
  al : as.length = S.reads.length
  hp : M p = some (.obj ("Spread" : Str) (spF N lr lo))
  hr : M lr = some (.lst (as.map fun a => .ref a))
  ho : M lo = some (.lst (dnsV S.loads))
  ha : ∀ (i : Nat) (a : Addr) (r : List Nat), as[i]? = some a → S.reads[i]? = some r → M a = some (.lst (dnsV r))
theorem sp_ne : ¬ ("needs" : Str) = ("reads" : Str) ∧ ¬ ("needs" : Str) = ("loads" : Str) ∧ ¬ ("reads" : Str) = ("loads" : Str) := by decide +kernel
theorem sp_lk (N : List NdT) (lr lo : Addr) : (spF N lr lo).lookup ("needs" : Str) = some (ndsV N) ∧ (spF N lr lo).lookup ("reads" : Str) = some (.ref lr) ∧ (spF N lr lo).lookup ("loads" : Str) = some (.ref lo) := by
  unfold spF
  refine ⟨?_, ?_, ?_⟩ <;> simp only [List.lookup_cons] <;> rfl
theorem sp_no (N : List NdT) (lr lo : Addr) : (spF N lr lo).lookup ("busiest" : Str) = none ∧ (spF N lr lo).lookup ("exchanges" : Str) = none ∧ (spF N lr lo).lookup ("reached" : Str) = none ∧ (spF N lr lo).lookup ("shift" : Str) = none ∧ (spF N lr lo).lookup ("eased" : Str) = none ∧ (spF N lr lo).lookup ("plan" : Str) = none := by
  unfold spF
  refine ⟨?_, ?_, ?_, ?_, ?_, ?_⟩ <;> simp only [List.lookup_cons] <;> rfl
theorem sp_put0 (d : Dv) : putFd ("needs" : Str) d [] = [(("needs" : Str), d)] := rfl
theorem sp_put1 (d e : Dv) : putFd ("reads" : Str) e [(("needs" : Str), d)] = [(("needs" : Str), d), (("reads" : Str), e)] := by
  show (if ("needs" : Str) = ("reads" : Str) then _ else _) = _
  rw [if_neg sp_ne.1]
  rfl
theorem sp_put2 (d e f : Dv) : putFd ("loads" : Str) f [(("needs" : Str), d), (("reads" : Str), e)] = [(("needs" : Str), d), (("reads" : Str), e), (("loads" : Str), f)] := by
  show (if ("needs" : Str) = ("loads" : Str) then _ else (("needs" : Str), d) :: if ("reads" : Str) = ("loads" : Str) then _ else _) = _
  rw [if_neg sp_ne.2.1, if_neg sp_ne.2.2]
  rfl
theorem dns_len (l : List Nat) : (dnsV l).length = l.length := List.length_map _
theorem dns_at {l : List Nat} {i : Nat} (h : i < l.length) : atI (dnsV l) (i : Int) = some (dn (l.getD i 0)) := HC.atI_nat (by unfold dnsV; rw [List.getElem?_map, List.getElem?_eq_getElem h, List.getD_eq_getElem?_getD, List.getElem?_eq_getElem h]; rfl)
theorem dns_ints (l : List Nat) : dnsV l = (l.map fun n : Nat => (n : Int)).map Dv.int := by
  unfold dnsV
  rw [List.map_map]
  rfl
theorem SpAt.mono {M0 M M' : Ms} {p lr lo : Addr} {as : List Addr} {N : List NdT} {S : SprS} (h : SpAt M0 M p lr lo as N S) (s : Sub M M') : SpAt M0 M' p lr lo as N S :=
  ⟨h.sub.trans s, h.p0, h.r0, h.o0, h.a0, h.ro, h.ra, h.nd, h.al, s _ _ h.hp, s _ _ h.hr, s _ _ h.ho, fun i a r h1 h2 => s _ _ (h.ha i a r h1 h2)⟩
theorem SpAt.pn {M0 M : Ms} {p lr lo : Addr} {as : List Addr} {N : List NdT} {S : SprS} (h : SpAt M0 M p lr lo as N S) : p ≠ lr ∧ p ≠ lo := by
  constructor
  · intro e
    have a := h.hp
    rw [e, h.hr] at a
    cases a
  · intro e
    have a := h.hp
    rw [e, h.ho] at a
    cases a
theorem SpAt.pa {M0 M : Ms} {p lr lo : Addr} {as : List Addr} {N : List NdT} {S : SprS} (h : SpAt M0 M p lr lo as N S) {a : Addr} (ha : a ∈ as) : p ≠ a := by
  intro e
  obtain ⟨i, hi, ei⟩ := List.mem_iff_getElem.mp ha
  have h1 : as[i]? = some a := by rw [List.getElem?_eq_getElem hi, ei]
  have hi2 : i < S.reads.length := by rw [← h.al]; exact hi
  have := h.ha i a _ h1 (List.getElem?_eq_getElem hi2)
  rw [← e, h.hp] at this
  cases this
theorem SpAt.less {M0 M1 M : Ms} {p lr lo : Addr} {as : List Addr} {N : List NdT} {S : SprS} (h : SpAt M1 M p lr lo as N S) (s : Sub M0 M1) : SpAt M0 M p lr lo as N S :=
  ⟨s.trans h.sub, s.free h.p0, s.free h.r0, s.free h.o0, fun a ha => s.free (h.a0 a ha), h.ro, h.ra, h.nd, h.al, h.hp, h.hr, h.ho, h.ha⟩
theorem SpAt.under {M0 M : Ms} {p lr lo f : Addr} {as : List Addr} {N : List NdT} {S : SprS} {c : Cell} (h : SpAt M0 M p lr lo as N S) (hf : M f = none) : SpAt (mup M0 f c) (mup M f c) p lr lo as N S := by
  have g := h.mono (M' := mup M f c) (Sub.new hf)
  refine ⟨h.sub.both, (mup_ne (ne_of_new h.hp hf)).trans h.p0, (mup_ne (ne_of_new h.hr hf)).trans h.r0, (mup_ne (ne_of_new h.ho hf)).trans h.o0, fun a ha => ?_, h.ro, h.ra, h.nd, h.al, g.hp, g.hr, g.ho, g.ha⟩
  obtain ⟨i, hi, ei⟩ := List.mem_iff_getElem.mp ha
  have h1 : as[i]? = some a := by rw [List.getElem?_eq_getElem hi, ei]
  have hi2 : i < S.reads.length := by rw [← h.al]; exact hi
  have := h.ha i a _ h1 (List.getElem?_eq_getElem hi2)
  exact (mup_ne (ne_of_new this hf)).trans (h.a0 a ha)
theorem SpAt.setO {M0 M : Ms} {p lr lo : Addr} {as : List Addr} {N : List NdT} {S : SprS} (h : SpAt M0 M p lr lo as N S) (l : List Nat) : SpAt M0 (mup M lo (.lst (dnsV l))) p lr lo as N ⟨S.reads, l⟩ :=
  ⟨h.sub.mut h.o0, h.p0, h.r0, h.o0, h.a0, h.ro, h.ra, h.nd, h.al, (mup_ne h.pn.2).trans h.hp, (mup_ne h.ro).trans h.hr, mup_same, fun i a r h1 h2 => (mup_ne (h.ra a (List.mem_of_getElem? h1)).2).trans (h.ha i a r h1 h2)⟩
theorem SpAt.setA {M0 M : Ms} {p lr lo : Addr} {as : List Addr} {N : List NdT} {S : SprS} (h : SpAt M0 M p lr lo as N S) {n : Nat} {a : Addr} (hn : as[n]? = some a) (r : List Nat) : SpAt M0 (mup M a (.lst (dnsV r))) p lr lo as N ⟨S.reads.set n r, S.loads⟩ := by
  have hm := List.mem_of_getElem? hn
  refine ⟨h.sub.mut (h.a0 a hm), h.p0, h.r0, h.o0, h.a0, h.ro, h.ra, h.nd, by rw [List.length_set]; exact h.al, (mup_ne (h.pa hm)).trans h.hp, (mup_ne (h.ra a hm).1.symm).trans h.hr, (mup_ne (h.ra a hm).2.symm).trans h.ho, fun i b r' h1 h2 => ?_⟩
  have h2 : (S.reads.set n r)[i]? = some r' := h2
  by_cases c : n = i
  · subst c
    rw [hn] at h1
    cases h1
    rw [List.getElem?_set_self (by rw [← h.al]; exact (List.getElem?_eq_some_iff.mp hn).1)] at h2
    cases h2
    exact mup_same
  · rw [List.getElem?_set_ne c] at h2
    have hne : b ≠ a := fun e => c ((List.getElem?_inj (List.getElem?_eq_some_iff.mp hn).1 h.nd).mp (hn.trans (e ▸ h1.symm)))
    exact (mup_ne hne).trans (h.ha i b r' h1 h2)
theorem SpAt.addR {M0 M : Ms} {p lr lo a : Addr} {as : List Addr} {N : List NdT} {S : SprS} {r : List Nat} (h : SpAt M0 M p lr lo as N S) (a0 : M0 a = none) (an : a ∉ as) (ao : a ≠ lo) (al : a ≠ lr) (ha : M a = some (.lst (dnsV r))) : SpAt M0 (mup M lr (.lst ((as ++ [a]).map fun a => .ref a))) p lr lo (as ++ [a]) N ⟨S.reads ++ [r], S.loads⟩ := by
  refine ⟨h.sub.mut h.r0, h.p0, h.r0, h.o0, fun b hb => ?_, h.ro, fun b hb => ?_, ?_, by rw [List.length_append, List.length_append, h.al]; rfl, (mup_ne h.pn.1).trans h.hp, mup_same, (mup_ne h.ro.symm).trans h.ho, fun i b r' h1 h2 => ?_⟩
  · rcases List.mem_append.mp hb with hb | hb
    · exact h.a0 b hb
    · rw [List.mem_singleton.mp hb]; exact a0
  · rcases List.mem_append.mp hb with hb | hb
    · exact h.ra b hb
    · rw [List.mem_singleton.mp hb]; exact ⟨al, ao⟩
  · refine List.nodup_append.mpr ⟨h.nd, (show [a].Nodup from List.nodup_cons.mpr ⟨List.not_mem_nil, List.nodup_nil⟩), ?_⟩
    intro x hx y hy e
    rw [e, List.mem_singleton.mp hy] at hx
    exact an hx
  · have h2 : (S.reads ++ [r])[i]? = some r' := h2
    rw [List.getElem?_append] at h1 h2
    by_cases c : i < as.length
    · rw [if_pos c] at h1
      rw [if_pos (by rw [← h.al]; exact c)] at h2
      exact (mup_ne (h.ra b (List.mem_of_getElem? h1)).1).trans (h.ha i b r' h1 h2)
    · rw [if_neg c] at h1
      rw [if_neg (by rw [← h.al]; exact c), ← h.al] at h2
      cases e : i - as.length with
      | zero =>
        rw [e] at h1 h2
        cases h1
        cases h2
        exact (mup_ne al).trans ha
      | succ k => rw [e] at h1; cases h1
theorem lcO {keep : Ms → Prop} {tg : Tg} {own : List Nat} {tt : RT} {te : RE} {ρ : Env'} {Q : Addr → Ms → Prop} {M : Ms} {ds : List Dv} (g : Nat → Option Dv) (hk : ∀ M', Sub M M' → keep M') (hl : ds.length ≤ sizeLine)
    (ht : ∀ i d, ds[i]? = some d → ∀ (M' : Ms) (N : Option Dv → Ms → Prop), Sub M M' → N (g i) M' → ∃ ρ', Tg.put tg d (wipeA ρ own) M' = some ρ' ∧ tt ρ' M' fun b M2 => onIf b (te ρ' M2 fun y M3 => N (some y) M3) (N none M2))
    (q : ∀ D, M D = none → Q D (mup M D (.lst ((List.range ds.length).filterMap g)))) : ∀ D, M D = none → lcW keep tg own tt te ρ D (Q D) ds (mup M D (.lst [])) := fun D hD => by
  have len : ∀ i, ((List.range i).filterMap g).length ≤ i := fun i => by
    have := List.length_filterMap_le g (List.range i)
    simpa using this
  refine lcW_inv (fun i M' => M' = mup M D (.lst ((List.range i).filterMap g))) rfl (fun i M' _ e => by subst e; exact hk _ (Sub.new hD)) (fun i d M' hd e => ?_) fun M' e => ?_
  · subst e
    have hi := (List.getElem?_eq_some_iff.mp hd).1
    obtain ⟨ρ', h1, h2⟩ := ht i d hd (mup M D (.lst ((List.range i).filterMap g))) (fun o M3 => match o with
      | some y => ∃ acc, M3 D = some (.lst acc) ∧ acc.length < sizeLine ∧ wkM (fun M' => M' = mup M D (.lst ((List.range (i + 1)).filterMap g))) (mup M3 D (.lst (acc ++ [y])))
      | none => wkM (fun M' => M' = mup M D (.lst ((List.range (i + 1)).filterMap g))) M3) (Sub.new hD) (by
        cases e : g i with
        | some y =>
          refine ⟨_, mup_same, ?_, _, Sub.refl _, ?_⟩
          · have := len i; omega
          · rw [mup_mup, List.range_succ, List.filterMap_append]
            simp [e]
        | none =>
          refine ⟨_, Sub.refl _, ?_⟩
          rw [List.range_succ, List.filterMap_append]
          simp [e])
    exact ⟨ρ', h1, h2⟩
  · subst e
    exact q D hD
theorem fm_idx {α β : Type} (L : List α) (f : α → Option β) (x : α) : (List.range L.length).filterMap (fun i => f (L.getD i x)) = L.filterMap f := by
  have h : L = (List.range L.length).map fun i => L.getD i x := by
    refine List.ext_getElem (by simp) fun i h1 h2 => ?_
    rw [List.getElem_map, List.getElem_range, List.getD_eq_getElem?_getD, List.getElem?_eq_getElem h1]
    rfl
  conv => rhs; rw [h]
  rw [List.filterMap_map]
  rfl
theorem keysD_dns (l : List Nat) : keysD (dnsV l) = some (l.map fun (n : Nat) => (.inl (n : Int) : Key)) := keysD_nats l
def exV (L : List (Nat × Nat)) : Dv := .rol (L.map fun e => .tup [dn e.1, dn e.2])
def fnV (f : Fnd) : List (Key × Dv) := f.map fun e => (.inl (e.1 : Int), match e.2 with | none => .non | some x => .tup [dn x.1, dn x.2])
theorem fn_get (f : Fnd) (o : Nat) : getK (fnV f) (.inl (o : Int)) = (f.lookup o).map fun v => match v with | none => .non | some x => .tup [dn x.1, dn x.2] := by
  unfold getK
  induction f with
  | nil => rfl
  | cons e f ih =>
    obtain ⟨a, v⟩ := e
    rw [List.lookup_cons]
    show Option.map _ (List.find? _ ((Sum.inl (a : Int), _) :: fnV f)) = _
    by_cases c : a = o
    · subst c
      rw [List.find?_cons_of_pos (by simp)]
      simp
    · have e1 : (o == a) = false := beq_eq_false_iff_ne.mpr (Ne.symm c)
      rw [List.find?_cons_of_neg (by simp only [decide_eq_true_eq]; intro z; exact c (Int.ofNat.inj (Sum.inl.inj z))), e1]
      exact ih
theorem fn_has (f : Fnd) (o : Nat) : (getK (fnV f) (.inl (o : Int))).isSome = decide (o ∈ keyF f) := by
  rw [fn_get, Option.isSome_map]
  unfold keyF
  induction f with
  | nil => rfl
  | cons e f ih =>
    obtain ⟨a, v⟩ := e
    rw [List.lookup_cons, List.map_cons]
    by_cases c : o = a
    · subst c
      simp
    · have e1 : (o == a) = false := beq_eq_false_iff_ne.mpr c
      rw [e1]
      refine ih.trans ?_
      simp [c]
theorem fn_put {f : Fnd} {o : Nat} (h : o ∉ keyF f) (n k : Nat) : putA (fnV f) (.inl (o : Int)) (.tup [dn n, dn k]) = fnV (f ++ [(o, some (n, k))]) := by
  have a : ((fnV f).any fun kv => decide (kv.1 = .inl (o : Int))) = false := by
    rw [Bool.eq_false_iff]
    intro z
    obtain ⟨x, hx, e⟩ := List.any_eq_true.mp z
    obtain ⟨y, hy, rfl⟩ := List.mem_map.mp hx
    have e := Int.ofNat.inj (Sum.inl.inj (of_decide_eq_true e))
    exact h (e ▸ List.mem_map.mpr ⟨y, hy, rfl⟩)
  unfold putA
  rw [a]
  show fnV f ++ _ = _
  unfold fnV
  rw [List.map_append]
  rfl
theorem fn_len (f : Fnd) : (fnV f).length = f.length := List.length_map _
theorem key_len (f : Fnd) : (keyF f).length = f.length := List.length_map _
theorem exN_len {N : List NdT} {w : Nat} (ok : NdOk N w) (rs : List (List Nat)) (h : Nat) : ∀ k, k ≤ N.length → (exN N rs h k).length ≤ k * w := by
  intro k
  induction k with
  | zero => intro _; exact Nat.le_of_eq (by unfold exN; rw [List.range_zero]; rw [Nat.zero_mul]; rfl)
  | succ k ih =>
    intro hk
    rw [exN_succ, List.length_append, Nat.succ_mul]
    refine Nat.add_le_add (ih (by omega)) ?_
    by_cases c : h ∈ rs.getD k []
    · rw [if_pos c, List.length_map]
      have hn : N.getD k (0, [], 0) ∈ N := by
        rw [List.getD_eq_getElem?_getD, List.getElem?_eq_getElem (show k < N.length by omega)]
        exact List.getElem_mem _
      obtain ⟨a, b, _⟩ := ok.nd _ hn
      have := List.Nodup.length_le_of_subset a (l₂ := List.range w) fun x hx => List.mem_range.mpr (b x hx)
      rw [List.length_range] at this
      exact Nat.le_trans (List.length_filter_le _ _) this
    · rw [if_neg c]; exact Nat.zero_le _
theorem nd_at {N : List NdT} {i : Nat} {n : NdT} (h : N[i]? = some n) : atI (N.map ndV) (i : Int) = some (ndV n) := HC.atI_nat (by rw [List.getElem?_map, h]; rfl)
def vV : Option (Nat × Nat) → Dv
  | none => .non
  | some x => .tup [dn x.1, dn x.2]
theorem fn_at {f : Fnd} {o : Nat} {v : Option (Nat × Nat)} (h : f.lookup o = some v) : getK (fnV f) (.inl (o : Int)) = some (vV v) := by
  rw [fn_get, h]
  cases v <;> rfl
theorem dns_set (l : List Nat) (i v : Nat) : (dnsV l).set i (dn v) = dnsV (l.set i v) := by
  unfold dnsV
  rw [List.map_set]
theorem dns_get {l : List Nat} {i : Nat} (h : i < l.length) : (dnsV l)[i]? = some (dn (l.getD i 0)) := by
  unfold dnsV
  rw [List.getElem?_map, List.getD_eq_getElem?_getD, List.getElem?_eq_getElem h]
  rfl
theorem dns_app (l : List Nat) (x : Nat) : dnsV l ++ [dn x] = dnsV (l ++ [x]) := by
  unfold dnsV
  rw [List.map_append]
  rfl
theorem er_map {α β : Type} (f : α → β) : ∀ (l : List α) (j : Nat), (l.map f).eraseIdx j = (l.eraseIdx j).map f
  | [], j => by simp
  | x :: l, 0 => by simp
  | x :: l, j + 1 => by
    have ih := er_map f l j
    simp [ih]
theorem rem_ok {r : List Nat} {h : Nat} (hm : h ∈ r) : ∃ (ns : List Int) (j : Nat), dnsV r = ns.map .int ∧ ns[j]? = some (h : Int) ∧ (∀ m : Nat, m < j → ns[m]? ≠ some (h : Int)) ∧ (ns.eraseIdx j).map .int = dnsV (r.erase h) := by
  have hl := List.idxOf_lt_length_of_mem hm
  refine ⟨r.map fun n : Nat => (n : Int), r.idxOf h, dns_ints r, ?_, fun m hmj e => ?_, ?_⟩
  · rw [List.getElem?_map, List.getElem?_eq_getElem hl, List.getElem_idxOf hl]
    rfl
  · rw [List.getElem?_map] at e
    obtain ⟨x, hx, ex⟩ := Option.map_eq_some_iff.mp e
    have ex := Int.ofNat.inj ex
    subst ex
    obtain ⟨q1, q2⟩ := List.getElem?_eq_some_iff.mp hx
    have := List.not_of_lt_findIdx (p := (· == x)) (xs := r) (i := m) hmj
    rw [q2] at this
    rw [beq_self_eq_true x] at this
    cases this
  · rw [List.erase_eq_eraseIdx_of_idxOf (l := r) (a := h) rfl, dns_ints, er_map]
def plV (L : List (Nat × List Nat)) : Dv := .tup (L.map fun x => .tup [dn x.1, .tup (dnsV x.2)])
open Classical in
noncomputable def spreadV (N : List NdT) (w : Nat) : Dv := if N = [] then .tup [.tup [], .tup []] else .tup [plV (planS N (spreadS N w).1), .tup (dnsV (spreadS N w).2)]
def SzOk (N : List NdT) (w : Nat) : Prop := 0 < w ∧ w ≤ 100 ∧ N.length ≤ 1000
end Law
set_option maxHeartbeats 1000000
namespace Law
open PySem L2 HC PyProof.Rows
def readD (s : Store) (row : Nat) : List Nat := (List.range (s.wide row)).filter fun k => (s.cell k row).isSome
def needD (s : Store) (row : Nat) : NdT := (row, readD s row, s.wide row - s.head.par)
theorem fm_pick (p : Nat → Bool) (f : Nat → Dv) : ∀ L : List Nat, L.filterMap (fun j => if p j = true then some (f j) else none) = (L.filter p).map f
  | [] => rfl
  | x :: L => by
    have ih := fm_pick p f L
    cases c : p x with
    | true => rw [List.filterMap_cons_some (by rw [if_pos c]), List.filter_cons_of_pos c, List.map_cons, ih]
    | false => rw [List.filterMap_cons_none (by rw [if_neg (by rw [c]; decide)]), List.filter_cons_of_neg (by rw [c]; decide), ih]
theorem mod_two {a j w : Nat} (ha : a < w) (hj : j < w) : (a + j) % w = if a + j < w then a + j else a + j - w := by
  by_cases h : a + j < w
  · rw [if_pos h, Nat.mod_eq_of_lt h]
  · rw [if_neg h, Nat.mod_eq_sub_mod (by omega), Nat.mod_eq_of_lt (by omega)]
theorem readD_nd (s : Store) (row : Nat) : (readD s row).Nodup := List.Pairwise.filter _ List.nodup_range
theorem readD_pw (s : Store) (row : Nat) : (readD s row).Pairwise (· < ·) := List.Pairwise.filter _ List.pairwise_lt_range
theorem mem_readD {s : Store} {row k : Nat} : k ∈ readD s row ↔ k < s.wide row ∧ (s.cell k row).isSome = true := by
  unfold readD
  rw [List.mem_filter, List.mem_range]
theorem readD_turn (s : Store) (row : Nat) (hw : 0 < s.wide row) : (((List.range (s.wide row)).filter fun j => (s.cell ((row + j) % s.wide row) row).isSome).map fun j => (row + j) % s.wide row).Perm (readD s row) := by
  have hr : row % s.wide row < s.wide row := Nat.mod_lt _ hw
  have e : ∀ j, (row + j) % s.wide row = (row % s.wide row + j) % s.wide row := fun j => (Nat.mod_add_mod row _ j).symm
  refine (List.perm_ext_iff_of_nodup ?_ (readD_nd s row)).mpr fun k => ?_
  · unfold List.Nodup
    rw [List.pairwise_map]
    refine List.Pairwise.imp_of_mem ?_ (List.Pairwise.filter _ List.nodup_range : List.Nodup _)
    intro a b ha hb hne h
    have ha := List.mem_range.mp (List.mem_filter.mp ha).1
    have hb := List.mem_range.mp (List.mem_filter.mp hb).1
    rw [e, e, mod_two hr ha, mod_two hr hb] at h
    refine hne ?_
    split at h <;> split at h <;> omega
  · rw [mem_readD, List.mem_map]
    constructor
    · rintro ⟨j, hj, rfl⟩
      exact ⟨Nat.mod_lt _ hw, (List.mem_filter.mp hj).2⟩
    · rintro ⟨h1, h2⟩
      refine ⟨if row % s.wide row ≤ k then k - row % s.wide row else k + s.wide row - row % s.wide row, ?_, ?_⟩
      all_goals
        have q : (row + (if row % s.wide row ≤ k then k - row % s.wide row else k + s.wide row - row % s.wide row)) % s.wide row = k := by
          rw [e, mod_two hr (by split <;> omega)]
          split <;> split <;> omega
      · exact List.mem_filter.mpr ⟨List.mem_range.mpr (by split <;> omega), by rw [q]; exact h2⟩
      · exact q
def anyV (s : Store) (row : Nat) : Dv := if (readD s row).length < s.wide row - s.head.par then .tup [dn row, .non, dn (s.wide row - s.head.par)] else .tup [dn row, .rol (dnsV (readD s row)), dn (s.wide row - s.head.par)]
def lnV (N : List NdT) : Dv := .rol (N.map fun n => .tup [dn n.1, .rol (dnsV n.2.1), dn n.2.2])
theorem spread_told {N : List NdT} {w : Nat} (ok : NdOk N w) (sz : SzOk N w) : ∃ (P : List (Nat × List Nat)) (p : List Nat), spreadV N w = .tup [plV P, .tup (dnsV p)] ∧ P.length = N.length ∧
    (∀ (i : Nat) (x : Nat × List Nat) (n : NdT), P[i]? = some x → N[i]? = some n → x.1 = n.1 ∧ x.2.Pairwise (· < ·) ∧ x.2.length = n.2.2 ∧ x.2.length ≤ 1000 ∧ ∀ d ∈ x.2, d ∈ n.2.1) ∧ p.Pairwise (· < ·) ∧ p.length ≤ 100 ∧ (N = [] → P = [] ∧ p = []) := by
  unfold spreadV
  by_cases hN : N = []
  · subst hN
    exact ⟨[], [], by rw [if_pos rfl]; rfl, rfl, fun i x n h => by simp at h, .nil, Nat.zero_le _, fun _ => ⟨rfl, rfl⟩⟩
  · obtain ⟨I, C⟩ := spread_ok ok sz.1
    rw [if_neg hN]
    refine ⟨_, _, rfl, ?_, fun i x n hx hn => ?_, C.up, ?_, fun h => absurd h hN⟩
    · unfold planS
      rw [List.length_map, List.length_range]
    · have hi := (List.getElem?_eq_some_iff.mp hn).1
      unfold planS at hx
      rw [List.getElem?_map, List.getElem?_range hi] at hx
      cases hx
      have hi2 : i < (spreadS N w).1.reads.length := by rw [I.rl]; exact hi
      have hq : (spreadS N w).1.reads[i]? = some ((spreadS N w).1.reads.getD i []) := by rw [List.getD_eq_getElem?_getD, List.getElem?_eq_getElem hi2]; rfl
      obtain ⟨q1, q2, q3⟩ := I.rd i n _ hn hq
      have en : N.getD i (0, [], 0) = n := by rw [List.getD_eq_getElem?_getD, hn]; rfl
      obtain ⟨a, b, c⟩ := ok.nd n (List.mem_of_getElem? hn)
      have dl := List.Nodup.length_le_of_subset a (l₂ := List.range w) fun x hx => List.mem_range.mpr (b x hx)
      rw [List.length_range] at dl
      have := sz.2.1
      refine ⟨congrArg (fun z : NdT => z.1) en, sortN_lt q1, (sortN_perm _).length_eq.trans q3, ?_, fun d hd => q2 d (mem_sortN.mp hd)⟩
      show (sortN _).length ≤ _
      rw [(sortN_perm _).length_eq, q3]
      omega
    · have := List.Nodup.length_le_of_subset (C.up.imp Nat.ne_of_lt : List.Nodup _) (l₂ := List.range w) fun x hx => List.mem_range.mpr (C.lt x hx)
      rw [List.length_range] at this
      have := sz.2.1
      omega
end Law
namespace Law
open PySem L2 HC PyProof.Rows
def drQ (ns : List Int) : Cell := .lst (ns.map Dv.int)
structure DPot (p q : Addr) (M : Ms) : Prop where
  e : q = p
  d : ∃ ns : List Int, M p = some (drQ ns) ∧ ns ≠ [] ∧ ns.length ≤ 1000000
def But (p q : Addr) (M M' : Ms) : Prop := ∀ a c, a ≠ p → a ≠ q → M a = some c → M' a = some c
theorem But.p {p q : Addr} {M M1 : Ms} {c : Cell} (h : But p q M M1) : But p q M (mup M1 p c) := fun a d h1 h2 e => by rw [mup_ne h1]; exact h a d h1 h2 e
theorem But.new {p q r : Addr} {M M1 : Ms} {c : Cell} (h : But p q M M1) (hr : M1 r = none) : But p q M (mup M1 r c) := fun a d h1 h2 e => Sub.new hr a d (h a d h1 h2 e)
theorem But.refl (p q : Addr) (M : Ms) : But p q M M := fun _ _ _ _ e => e
theorem But.trans {p q : Addr} {M M1 M2 : Ms} (h : But p q M M1) (k : But p q M1 M2) : But p q M M2 := fun a d h1 h2 e => k a d h1 h2 (h a d h1 h2 e)
theorem But.sub {p q : Addr} {M M1 M2 : Ms} (h : But p q M M1) (k : Sub M1 M2) : But p q M M2 := fun a d h1 h2 e => k a d (h a d h1 h2 e)
theorem DPot.sub {p q : Addr} {M M1 : Ms} (h : DPot p q M) (k : Sub M M1) : DPot p q M1 := by
  obtain ⟨e, c, hp, b⟩ := h
  exact ⟨e, c, k _ _ hp, b⟩
theorem DPot.set {p q : Addr} {M : Ms} {ns : List Int} (h : q = p) (h0 : ns ≠ []) (hl : ns.length ≤ 1000000) : DPot p q (mup M p (drQ ns)) := ⟨h, ns, mup_same, h0, hl⟩
theorem DPot.nep {p q r : Addr} {M : Ms} (h : DPot p q M) (hr : M r = none) : r ≠ p := by
  obtain ⟨_, _, hp, _⟩ := h
  exact (ne_of_new hp hr).symm
theorem DPot.neq {p q r : Addr} {M : Ms} (h : DPot p q M) (hr : M r = none) : r ≠ q := by
  rw [h.e]; exact h.nep hr
theorem DPot.del {p q r : Addr} {M : Ms} (h : DPot p q M) (h1 : r ≠ p) (h2 : r ≠ q) : DPot p q (mdel M r) := by
  obtain ⟨e, c, hp, b⟩ := h
  exact ⟨e, c, by rw [mdel_ne h1.symm]; exact hp, b⟩
theorem But.del {p q r : Addr} {M M1 : Ms} (h : But p q M M1) (hr : M r = none) : But p q M (mdel M1 r) := fun a d h1 h2 e => by rw [mdel_ne (ne_of_new e hr)]; exact h a d h1 h2 e
theorem But.at {p q r : Addr} {M M1 : Ms} {c : Cell} (h : But p q M M1) (h1 : r ≠ p) (h2 : r ≠ q) (e : M r = some c) : M1 r = some c := h r c h1 h2 e
theorem DPot.put {p q r : Addr} {M : Ms} {c : Cell} (h : DPot p q M) (h1 : r ≠ p) (h2 : r ≠ q) : DPot p q (mup M r c) := by
  obtain ⟨e, cs, hp, b⟩ := h
  exact ⟨e, cs, by rw [mup_ne h1.symm]; exact hp, b⟩
theorem But.mdel2 {p q r : Addr} {M M1 : Ms} (h : But p q M M1) : But p q (mdel M r) (mdel M1 r) := fun a d h1 h2 e => by
  by_cases ha : a = r
  · subst ha; rw [mdel_same] at e; cases e
  · rw [mdel_ne ha] at e ⊢; exact h a d h1 h2 e
theorem But.put {p q r : Addr} {M M1 : Ms} {c : Cell} (h : But p q M M1) (hr : M r = none) : But p q M (mup M1 r c) := fun a d h1 h2 e => by rw [mup_ne (ne_of_new e hr)]; exact h a d h1 h2 e
theorem but_free {p q u : Addr} {M M1 : Ms} (h : But p q M M1) (h1 : u ≠ p) (h2 : u ≠ q) (hu : M1 u = none) : M u = none := by
  cases e : M u with
  | none => rfl
  | some c => rw [h u c h1 h2 e] at hu; cases hu
end Law
set_option maxHeartbeats 1000000
namespace Law
open PySem L2 HC PyProof.Rows
theorem fmb_idx {α : Type} (h : α → Option Dv) (L : List α) : (List.range L.length).filterMap (fun i => (L[i]?).bind h) = L.filterMap h := by
  induction L with
  | nil => rfl
  | cons a L ih =>
    rw [List.length_cons, List.range_succ_eq_map]
    have e : (List.map Nat.succ (List.range L.length)).filterMap (fun i => ((a :: L)[i]?).bind h) = L.filterMap h := by
      rw [List.filterMap_map]
      exact ih
    cases c : h a with
    | none => rw [List.filterMap_cons_none (by show (some a).bind h = none; exact c), List.filterMap_cons_none c, e]
    | some d => rw [List.filterMap_cons_some (b := d) (by show (some a).bind h = some d; exact c), List.filterMap_cons_some c, e]
theorem fm_filter {α : Type} (p : α → Bool) (f : α → Dv) : ∀ L : List α, L.filterMap (fun a => if p a = true then some (f a) else none) = (L.filter p).map f
  | [] => rfl
  | x :: L => by
    have ih := fm_filter p f L
    cases c : p x with
    | true => rw [List.filterMap_cons_some (by rw [if_pos c]), List.filter_cons_of_pos c, List.map_cons, ih]
    | false => rw [List.filterMap_cons_none (by rw [if_neg (by rw [c]; decide)]), List.filter_cons_of_neg (by rw [c]; decide), ih]
theorem lcA_opt {α : Type} {keep : Ms → Prop} {tg : Tg} {own : List Nat} {tt : RT} {te : RE} {ρ : Env'} {Q : DK} {M : Ms} {L : List α} {v : α → Dv} (p : α → Bool) (f : α → Dv) (hk : ∀ M', Sub M M' → keep M') (hl : L.length ≤ sizeLine)
    (ht : ∀ a ∈ L, ∀ (M' : Ms) (N : Option Dv → Ms → Prop), Sub M M' → N (if p a = true then some (f a) else none) M' → ∃ ρ', Tg.put tg (v a) (wipeA ρ own) M' = some ρ' ∧ tt ρ' M' fun b M2 => onIf b (te ρ' M2 fun y M3 => N (some y) M3) (N none M2))
    (q : Q (.rol ((L.filter p).map f)) M) : ∀ D, M D = none → lcW keep tg own tt te ρ D (fun M' => fzK (.ref D) M' Q) (L.map v) (mup M D (.lst [])) :=
  lcFk_opt (fun i => (L[i]?).bind fun a => if p a = true then some (f a) else none) hk (by rw [List.length_map]; exact hl) (fun i d hd M' N hs hn => by
    rw [List.getElem?_map] at hd
    obtain ⟨a, ha, rfl⟩ := Option.map_eq_some_iff.mp hd
    rw [ha] at hn
    exact ht a (List.mem_of_getElem? ha) M' N hs hn) (by rw [List.length_map, fmb_idx, fm_filter]; exact q)
def tellW (φ : Nat → Nat → Nat) (x : Nat × Pcs) : List Dv := x.2.map fun y => dn (φ x.1 y.1)
structure GW (φ : Nat → Nat → Nat) (M : Ms) (f : Addr) (g : Grp) (as : List Addr) : Prop where
  len : as.length = g.length
  nd : as.Nodup
  nf : f ∉ as
  f : M f = some (.dic (grD g as))
  c : ∀ (i : Nat) (x : Nat × Pcs) (a : Addr), g[i]? = some x → as[i]? = some a → M a = some (.lst (tellW φ x))
variable {φ : Nat → Nat → Nat}
theorem GW.sub {M M' : Ms} {f : Addr} {g : Grp} {as : List Addr} (h : GW φ M f g as) (s : Sub M M') : GW φ M' f g as := ⟨h.len, h.nd, h.nf, s _ _ h.f, fun i x a e e2 => s _ _ (h.c i x a e e2)⟩
theorem GW.mem {M : Ms} {f : Addr} {g : Grp} {as : List Addr} (h : GW φ M f g as) {a : Addr} (ha : a ∈ as) : ∃ c, M a = some c := by
  obtain ⟨i, hi, e⟩ := List.mem_iff_getElem.mp ha
  have hg : i < g.length := by rw [← h.len]; exact hi
  exact ⟨_, h.c i g[i] a (List.getElem?_eq_getElem hg) (by rw [List.getElem?_eq_getElem hi, e])⟩
theorem GW.last {M : Ms} {f : Addr} {g : Grp} {as : List Addr} (h : GW φ M f g as) {x : Nat × Pcs} (e : g.getLast? = some x) : ∃ g' as' a, g = g' ++ [x] ∧ as = as' ++ [a] ∧ as'.length = g'.length := by
  have eg := last_split e
  have l := h.len
  have l2 : as ≠ [] := fun q => by
    rw [q, eg] at l
    simp at l
  refine ⟨g.dropLast, as.dropLast, as.getLast l2, eg, (List.dropLast_concat_getLast l2).symm, by rw [List.length_dropLast, List.length_dropLast, l]⟩
theorem GW.put {M : Ms} {f a : Addr} {g : Grp} {as : List Addr} {x : Nat × Pcs} {y : Nat × Nat × Blk} (h : GW φ M f (g ++ [x]) (as ++ [a])) (l : as.length = g.length) : GW φ (mup M a (.lst (tellW φ (x.1, x.2 ++ [y])))) f (g ++ [(x.1, x.2 ++ [y])]) (as ++ [a]) := by
  have nf : f ≠ a := fun e => h.nf (by rw [e]; simp)
  refine ⟨by simp [l], h.nd, h.nf, ?_, fun i z b e e2 => ?_⟩
  · rw [mup_ne nf, h.f, grD_append l, grD_append l]
  · by_cases hi : i < g.length
    · rw [List.getElem?_append_left hi] at e
      rw [List.getElem?_append_left (by omega)] at e2
      have ba : b ≠ a := fun q => by
        subst q
        have := List.nodup_append.mp h.nd
        exact this.2.2 b (List.mem_of_getElem? e2) b (by simp) rfl
      rw [mup_ne ba]
      exact h.c i z b (by rw [List.getElem?_append_left hi]; exact e) (by rw [List.getElem?_append_left (by omega)]; exact e2)
    · have hi2 : i = g.length := by
        have := (List.getElem?_eq_some_iff.mp e).1
        simp at this
        omega
      subst hi2
      rw [List.getElem?_append_right (Nat.le_refl _), Nat.sub_self] at e
      rw [← l, List.getElem?_append_right (Nat.le_refl _), Nat.sub_self] at e2
      cases e
      cases e2
      exact mup_same
theorem GW.more {M : Ms} {f p : Addr} {g : Grp} {as : List Addr} {x : Nat × Pcs} {c : Cell} (h : GW φ M f g as) (hp : M p = some c) (np : p ∉ as) (pf : f ≠ p) : GW φ (mup (mup M f (.dic (grD g as ++ [(.inl (x.1 : Int), .ref p)]))) p (.lst (tellW φ x))) f (g ++ [x]) (as ++ [p]) := by
  refine ⟨by simp [h.len], ?_, ?_, ?_, fun i z b e e2 => ?_⟩
  · rw [List.nodup_append]
    exact ⟨h.nd, by simp, fun a ha b hb e => np (by have : b = p := by simpa using hb
                                                    rw [← this, ← e]; exact ha)⟩
  · intro q
    rcases List.mem_append.mp q with q | q
    · exact h.nf q
    · exact pf (by simpa using q)
  · rw [mup_ne pf, mup_same, grD_append h.len]
  · by_cases hi : i < g.length
    · rw [List.getElem?_append_left hi] at e
      rw [List.getElem?_append_left (by rw [h.len]; exact hi)] at e2
      have hb := List.mem_of_getElem? e2
      rw [mup_ne (show b ≠ p from fun q => np (by rw [← q]; exact hb)), mup_ne (show b ≠ f from fun q => h.nf (by rw [← q]; exact hb))]
      exact h.c i z b e e2
    · have hi2 : i = g.length := by
        have := (List.getElem?_eq_some_iff.mp e).1
        simp at this
        omega
      subst hi2
      rw [List.getElem?_append_right (Nat.le_refl _), Nat.sub_self] at e
      rw [← h.len, List.getElem?_append_right (Nat.le_refl _), Nat.sub_self] at e2
      cases e
      cases e2
      exact mup_same
variable {s : Store}
theorem kept_le (ok : s.Ok) : s.kept ≤ 240 := by
  have r2 := ok.head.rows2
  have w2 := ok.head.width2
  have w1 := ok.head.width1
  have : s.kept ≤ 24 * 10 := Nat.mul_le_mul r2 (by omega)
  exact this
theorem asc_kept (ok : s.Ok) {bs : List Nat} (hp : bs.Pairwise (· < ·)) (hk : ∀ b ∈ bs, b < s.kept) : bs.length ≤ 240 := by
  have h1 := List.Nodup.length_le_of_subset (hp.imp fun h => Nat.ne_of_lt h) (l₂ := List.range s.kept) fun x hx => List.mem_range.mpr (hk x hx)
  rw [List.length_range] at h1
  have := kept_le ok
  omega
theorem grn_le : ∀ cs : List Nat, (s.grn cs).length ≤ cs.length := fun cs => by
  induction hn : cs.length generalizing cs with
  | zero => rw [List.length_eq_zero_iff.mp hn]; exact Nat.le_refl 0
  | succ n ih =>
    rcases List.eq_nil_or_concat cs with e | ⟨cs, c, e⟩
    · rw [e] at hn; cases hn
    · rw [List.concat_eq_append] at e
      subst e
      rw [grn_snoc]
      have := addG_len (s.grn cs) (s.spotN c) (0, [])
      have := ih cs (by simpa using hn)
      omega
theorem GW.step {M M2 : Ms} {f p : Addr} {as : List Addr} {bs : List Nat} {i b rr pl : Nat} (ok : s.Ok) (hp : bs.Pairwise (· < ·)) (hk : ∀ b ∈ bs, b < s.kept) (hb : bs[i]? = some b) (hsp : s.spotN b = (rr, pl))
    (gm : GW φ M2 f (s.grn (bs.take i)) as) (hs : Sub M M2) (hf : M f = none) (hfr : ∀ b ∈ as, M b = none) (hp2 : M2 p = none) :
    (grD (s.grn (bs.take i)) as).length < sizeLine ∧ mup M2 p (.lst []) f = some (.dic (grD (s.grn (bs.take i)) as)) ∧
    ((getK (grD (s.grn (bs.take i)) as) (.inl (rr : Int)) = none ∧ ∃ L, putA (grD (s.grn (bs.take i)) as) (.inl (rr : Int)) (.ref p) = L ∧ mup (mup M2 p (.lst [])) f (.dic L) p = some (.lst []) ∧
      ∃ as', GW φ (mup (mup (mup M2 p (.lst [])) f (.dic L)) p (.lst [dn (φ rr pl)])) f (s.grn (bs.take (i + 1))) as' ∧ Sub M (mup (mup (mup M2 p (.lst [])) f (.dic L)) p (.lst [dn (φ rr pl)])) ∧ ∀ b ∈ as', M b = none) ∨
    ∃ c l, getK (grD (s.grn (bs.take i)) as) (.inl (rr : Int)) = some (.ref c) ∧ mup M2 p (.lst []) c = some (.lst l) ∧ l.length < sizeLine ∧
      ∃ as', GW φ (mup (mup M2 p (.lst [])) c (.lst (l ++ [dn (φ rr pl)]))) f (s.grn (bs.take (i + 1))) as' ∧ Sub M (mup (mup M2 p (.lst [])) c (.lst (l ++ [dn (φ rr pl)]))) ∧ ∀ b ∈ as', M b = none) := by
  have bl := asc_kept ok hp hk
  have il := (List.getElem?_eq_some_iff.mp hb).1
  have et : bs.take (i + 1) = bs.take i ++ [b] := by
    rw [List.take_succ, hb]
    rfl
  have gp := grn_ok ok (bs.take i) b (by rw [← et]; exact hp.sublist (List.take_sublist _ _))
  have e4 := grn_snoc (s := s) (bs.take i) b
  rw [← et] at e4
  have gl2 := grn_le (s := s) (bs.take i)
  rw [List.length_take] at gl2
  have hin := spot_in ok (hk b (List.mem_of_getElem? hb))
  have w3 := ok.wide_ten (s.spotN b).1
  rw [hsp] at e4 gp hin w3
  have fp : f ≠ p := ne_of_new gm.f hp2
  have pas : p ∉ as := fun h => by
    obtain ⟨c, e⟩ := gm.mem h
    rw [hp2] at e
    cases e
  have gm2 := gm.sub (Sub.new (c := .lst []) hp2)
  have hp0 : M p = none := hs.free hp2
  have hs2 : Sub M (mup M2 p (.lst [])) := hs.trans (Sub.new hp2)
  have pp : mup M2 p (.lst []) p = some (.lst []) := mup_same
  generalize mup M2 p (.lst []) = M3 at gm2 hs2 pp ⊢
  refine ⟨by rw [grD_len gm.len]; exact lt_line (by omega), gm2.f, ?_⟩
  by_cases hne : ∀ x ∈ s.grn (bs.take i), x.1 ≠ rr
  · have fresh : addG (s.grn (bs.take i)) (rr, pl) (0, []) = s.grn (bs.take i) ++ [(rr, [(pl, (0, []))])] := by
      unfold addG
      cases hl : (s.grn (bs.take i)).getLast? with
      | none => rw [List.getLast?_eq_none_iff.mp hl]; rfl
      | some x =>
        have hx : x ∈ s.grn (bs.take i) := by rw [last_split hl]; simp
        simp only []
        rw [if_neg (hne x hx)]
    rw [fresh] at e4
    have g1 := gm2.more (x := (rr, [(pl, (0, []))])) pp pas fp
    rw [← e4] at g1
    refine .inl ⟨getK_none (grD_keys (as := as) hne), _, putA_new (d := .ref p) (grD_keys (as := as) hne), by rw [mup_ne fp.symm]; exact pp, _, g1, (hs2.mut hf).mut hp0, fun b hb => ?_⟩
    rcases List.mem_append.mp hb with q | q
    · exact hfr b q
    · rw [List.mem_singleton.mp q]; exact hp0
  · obtain ⟨x, hx, xr⟩ : ∃ x ∈ s.grn (bs.take i), x.1 = rr := by
      refine Classical.byContradiction fun q => hne fun x hx e => q ⟨x, hx, e⟩
    obtain ⟨g', y, eg, el, yr, gne, yl⟩ := gp.lastRow hx xr
    obtain ⟨g2, as', c, eg2, eas, l2⟩ := gm2.last el
    have e22 : g2 = g' := by
      rw [eg] at eg2
      exact (List.append_inj_left' eg2 rfl).symm
    subst e22
    have hcM := gm2.c g2.length y c (by rw [eg2, List.getElem?_append_right (Nat.le_refl _), Nat.sub_self]; rfl) (by rw [eas, ← l2, List.getElem?_append_right (Nat.le_refl _), Nat.sub_self]; rfl)
    have hc0 : M c = none := hfr c (by rw [eas]; simp)
    have e6 : addG (s.grn (bs.take i)) (rr, pl) (0, []) = g2 ++ [(y.1, y.2 ++ [(pl, (0, []))])] := by
      unfold addG
      rw [el]
      simp only []
      rw [if_pos yr, eg, List.dropLast_concat]
    rw [e6] at e4
    have gm3 := gm2
    rw [eg2, eas] at gm3
    have k1 : getK (grD (s.grn (bs.take i)) as) (.inl (rr : Int)) = some (.ref c) := by
      rw [eg2, eas, grD_append l2, getK_append (grD_keys gne), yr]
      simp [getK]
    have yll : (tellW φ y).length < sizeLine := by
      have q := gp.pl y (by rw [eg]; simp)
      have h1 := asc_len q (n := pl) fun z hz => (by
        obtain ⟨v, hv, rfl⟩ := List.mem_map.mp hz
        exact yl v hv)
      rw [List.length_map] at h1
      unfold tellW
      rw [List.length_map]
      refine lt_line ?_
      have h4 : pl < s.wide rr - s.head.par := hin.2.1
      omega
    have g1 := gm3.put (y := (pl, (0, []))) l2
    have e7 : tellW φ (y.1, y.2 ++ [(pl, (0, []))]) = tellW φ y ++ [dn (φ rr pl)] := by
      unfold tellW
      rw [List.map_append, yr]
      rfl
    rw [← e4, e7] at g1
    exact .inr ⟨c, _, k1, hcM, yll, _, g1, hs2.mut hc0, fun b hb => hfr b (by rw [eas]; exact hb)⟩
def rdAll (s : Store) (r : Nat) (ps : List Nat) : Bool := ps.all fun j => (s.cell ((r + j) % s.wide r) r).isSome
def rowT (s : Store) (r : Nat) (ps : List Nat) : List Nat := ps.map fun j => (r + j) % s.wide r
def justB (s : Store) (r : Nat) (ps : List Nat) : Bool := rdAll s r ps && decide (ps.length < s.wide r - s.head.par)
def rowN (s : Store) (r : Nat) (ps : List Nat) : NdT := if justB s r ps = true then (r, sortN (rowT s r ps), ps.length) else needD s r
def readN (s : Store) (bs : List Nat) : List NdT := (rowsW s bs).map fun x => rowN s x.1 x.2
def opnB (s : Store) (r : Nat) (ps : List Nat) : Bool := !justB s r ps && decide ((readD s r).length < s.wide r - s.head.par)
def CanRd (s : Store) (bs : List Nat) : Prop := ∀ x ∈ rowsW s bs, opnB s x.1 x.2 = false
def needW (s : Store) (x : Nat × List Nat) : Dv := if justB s x.1 x.2 = true then .tup [dn x.1, .rol (dnsV (sortN (rowT s x.1 x.2))), dn x.2.length] else anyV s x.1
theorem rwW_mem {bs : List Nat} {x : Nat × List Nat} (h : x ∈ rowsW s bs) : x.1 < s.head.rows ∧ x.2 = plR s bs x.1 ∧ x.2 ≠ [] := by
  unfold rowsW at h
  obtain ⟨r, hr, rfl⟩ := List.mem_map.mp h
  obtain ⟨h1, h2⟩ := List.mem_filter.mp hr
  exact ⟨List.mem_range.mp h1, rfl, of_decide_eq_true h2⟩
theorem rowsW_len (bs : List Nat) : (rowsW s bs).length ≤ s.head.rows := by
  unfold rowsW
  rw [List.length_map]
  have := List.length_filter_le (fun r => decide (plR s bs r ≠ [])) (List.range s.head.rows)
  rw [List.length_range] at this
  exact this
theorem rowsW_nil : rowsW s [] = [] := by
  unfold rowsW
  rw [List.filter_eq_nil_iff.mpr fun r _ => by
    intro h
    refine of_decide_eq_true h ?_
    refine List.eq_nil_iff_forall_not_mem.mpr fun j hj => ?_
    obtain ⟨n, _, h⟩ := plR_mem.mp hj
    cases h]
  rfl
theorem plR_wide {bs : List Nat} {r j : Nat} (h : j ∈ plR s bs r) : j < s.wide r := by have := plR_lt h; omega
theorem plR_len (bs : List Nat) (r : Nat) : (plR s bs r).length ≤ s.wide r - s.head.par := by
  have h1 := List.Nodup.length_le_of_subset ((plR_asc (s := s) bs r).imp fun h => Nat.ne_of_lt h) (l₂ := List.range (s.wide r - s.head.par)) fun x hx => List.mem_range.mpr (plR_lt hx)
  rw [List.length_range] at h1
  exact h1
theorem rowT_nd {r : Nat} {ps : List Nat} (hp : ps.Pairwise (· < ·)) (hl : ∀ j ∈ ps, j < s.wide r) (hw : 0 < s.wide r) : (rowT s r ps).Nodup := by
  have hr : r % s.wide r < s.wide r := Nat.mod_lt _ hw
  have e : ∀ j, (r + j) % s.wide r = (r % s.wide r + j) % s.wide r := fun j => (Nat.mod_add_mod r _ j).symm
  unfold rowT List.Nodup
  rw [List.pairwise_map]
  refine List.Pairwise.imp_of_mem ?_ hp
  intro a b ha hb hne h
  have l1 := hl a ha
  have l2 := hl b hb
  rw [e, e, mod_two hr l1, mod_two hr l2] at h
  split at h <;> split at h <;> omega
theorem readN_ok (ok : s.Ok) {bs : List Nat} (c : CanRd s bs) : NdOk (readN s bs) s.disks.length := by
  refine ⟨fun n hn => ?_⟩
  obtain ⟨x, hx, rfl⟩ := List.mem_map.mp hn
  obtain ⟨h1, h2, h3⟩ := rwW_mem hx
  have hw := ok.wide_pos x.1
  have hl := ok.wide_le x.1
  unfold rowN
  by_cases q : justB s x.1 x.2 = true
  · rw [if_pos q]
    rw [h2]
    refine ⟨(sortN_perm _).nodup_iff.mpr (rowT_nd (plR_asc _ _) (fun j hj => plR_wide hj) (by omega)), fun d hd => ?_, ?_⟩
    · obtain ⟨j, _, rfl⟩ := List.mem_map.mp (mem_sortN.mp hd)
      exact Nat.lt_of_lt_of_le (Nat.mod_lt _ (by omega)) hl
    · show _ ≤ (sortN _).length
      rw [(sortN_perm _).length_eq]
      unfold rowT
      rw [List.length_map]
      exact Nat.le_refl _
  · rw [if_neg q]
    have z := c x hx
    unfold opnB at z
    have q : justB s x.1 x.2 = false := by simpa using q
    rw [q] at z
    have z : ¬ (readD s x.1).length < s.wide x.1 - s.head.par := of_decide_eq_false (by simpa using z)
    exact ⟨readD_nd s _, fun d hd => Nat.lt_of_lt_of_le (mem_readD.mp hd).1 hl, Nat.le_of_not_lt z⟩
theorem readN_len (bs : List Nat) : (readN s bs).length ≤ s.head.rows := by
  unfold readN
  rw [List.length_map]
  exact rowsW_len bs
theorem read_law {bs : List Nat} (c : CanRd s bs) : Dv.rol ((rowsW s bs).map (needW s)) = lnV (readN s bs) := by
  unfold lnV readN
  rw [List.map_map]
  refine congrArg Dv.rol (List.map_congr_left fun x hx => ?_)
  have z := c x hx
  by_cases q : justB s x.1 x.2 = true
  · have e : rowN s x.1 x.2 = (x.1, sortN (rowT s x.1 x.2), x.2.length) := by unfold rowN; rw [if_pos q]
    show needW s x = (fun n : NdT => Dv.tup [dn n.1, .rol (dnsV n.2.1), dn n.2.2]) (rowN s x.1 x.2)
    unfold needW
    rw [if_pos q, e]
  · have e : rowN s x.1 x.2 = needD s x.1 := by unfold rowN; rw [if_neg q]
    show needW s x = (fun n : NdT => Dv.tup [dn n.1, .rol (dnsV n.2.1), dn n.2.2]) (rowN s x.1 x.2)
    unfold needW
    rw [if_neg q, e]
    unfold opnB at z
    have q : justB s x.1 x.2 = false := by simpa using q
    rw [q] at z
    have z : ¬ (readD s x.1).length < s.wide x.1 - s.head.par := of_decide_eq_false (by simpa using z)
    unfold anyV
    rw [if_neg z]
    rfl
theorem read_nil : readN s [] = [] := by
  unfold readN
  rw [rowsW_nil]
  rfl
theorem rdAll_disks (s : Store) (r : Nat) (ps : List Nat) (hw : 0 < s.wide r) : rdAll s r ps = (rowT s r ps).all fun d => decide (d ∈ readD s r) := by
  unfold rdAll rowT
  rw [List.all_map]
  refine List.all_congr rfl fun j => ?_
  show _ = decide ((r + j) % s.wide r ∈ readD s r)
  rw [Bool.eq_iff_iff, decide_eq_true_iff, mem_readD]
  exact ⟨fun h => ⟨Nat.mod_lt _ hw, h⟩, fun h => h.2⟩
def fitB (s : Store) (bs : List Nat) : List Nat := bs.filter fun b => !((rowsW s bs).any fun x => decide (x.1 = (s.spotN b).1) && opnB s x.1 x.2)
theorem fit_can (ok : s.Ok) {bs : List Nat} (hk : ∀ b ∈ bs, b < s.kept) : CanRd s (fitB s bs) := by
  intro x hx
  obtain ⟨h1, h2, h3⟩ := rwW_mem hx
  obtain ⟨j, hj⟩ := List.exists_mem_of_ne_nil _ h3
  rw [h2] at hj
  obtain ⟨n, en, hn⟩ := plR_mem.mp hj
  obtain ⟨hb, hq⟩ := List.mem_filter.mp hn
  have hs : (s.spotN n).1 = x.1 := by
    obtain ⟨_, e2⟩ := num_some en
    rw [e2]
  have hq : ((rowsW s bs).any fun x => decide (x.1 = (s.spotN n).1) && opnB s x.1 x.2) = false := by simpa using hq
  have ne : plR s bs x.1 ≠ [] := fun e => by
    have : j ∈ plR s bs x.1 := plR_mem.mpr ⟨n, en, hb⟩
    rw [e] at this
    cases this
  have hin : (x.1, plR s bs x.1) ∈ rowsW s bs := by
    unfold rowsW
    exact List.mem_map.mpr ⟨x.1, List.mem_filter.mpr ⟨List.mem_range.mpr h1, decide_eq_true ne⟩, rfl⟩
  have z := List.any_eq_false.mp hq _ hin
  have z : opnB s x.1 (plR s bs x.1) = false := by
    rw [hs] at z
    simpa using z
  have same : plR s (fitB s bs) x.1 = plR s bs x.1 := by
    refine asc_eq (plR_asc _ _) (plR_asc _ _) fun i => ⟨fun h => ?_, fun h => ?_⟩
    · obtain ⟨m, e, hm⟩ := plR_mem.mp h
      exact plR_mem.mpr ⟨m, e, (List.mem_filter.mp hm).1⟩
    · obtain ⟨m, e, hm⟩ := plR_mem.mp h
      refine plR_mem.mpr ⟨m, e, List.mem_filter.mpr ⟨hm, ?_⟩⟩
      have hs2 : (s.spotN m).1 = x.1 := by
        obtain ⟨_, e2⟩ := num_some e
        rw [e2]
      rw [hs2, ← hs, hq]
      rfl
  rw [h2, same]
  exact z
theorem fit_asc {bs : List Nat} (hp : bs.Pairwise (· < ·)) : (fitB s bs).Pairwise (· < ·) := List.Pairwise.filter _ hp
theorem fit_kept {bs : List Nat} (hk : ∀ b ∈ bs, b < s.kept) : ∀ b ∈ fitB s bs, b < s.kept := fun b hb => hk b (List.mem_filter.mp hb).1
theorem needW_open {x : Nat × List Nat} (h : opnB s x.1 x.2 = true) : needW s x = .tup [dn x.1, .non, dn (s.wide x.1 - s.head.par)] := by
  unfold opnB at h
  rw [Bool.and_eq_true] at h
  have h1 : justB s x.1 x.2 = false := by simpa using h.1
  unfold needW anyV
  rw [h1, if_neg (by decide), if_pos (of_decide_eq_true h.2)]
theorem needW_fit {x : Nat × List Nat} (h : opnB s x.1 x.2 = false) : ∃ L m, needW s x = .tup [dn x.1, .rol L, m] := by
  unfold needW anyV
  by_cases c : justB s x.1 x.2 = true
  · exact ⟨_, _, by rw [if_pos c]⟩
  · rw [if_neg c]
    have c : justB s x.1 x.2 = false := by simpa using c
    unfold opnB at h
    rw [c] at h
    rw [if_neg (of_decide_eq_false (by simpa using h))]
    exact ⟨_, _, rfl⟩
theorem fitB_eq (bs : List Nat) : fitB s bs = bs.filter fun b => decide ((s.spotN b).1 ∉ ((rowsW s bs).filter fun x => opnB s x.1 x.2).map (·.1)) := by
  unfold fitB
  refine List.filter_congr fun b _ => ?_
  rw [Bool.eq_iff_iff, decide_eq_true_iff, Bool.not_eq_true', List.any_eq_false, List.mem_map]
  constructor
  · rintro h ⟨x, hx, e⟩
    obtain ⟨h1, h2⟩ := List.mem_filter.mp hx
    have := h x h1
    rw [h2, e] at this
    simp at this
  · intro h x hx z
    rw [Bool.and_eq_true] at z
    exact h ⟨x, List.mem_filter.mpr ⟨hx, z.2⟩, of_decide_eq_true z.1⟩
end Law
namespace Law
open PySem L2 HC PyProof.Rows
set_option maxHeartbeats 1000000
local macro_rules | `(tactic| infer_instance) => `(tactic| (first | exact True.intro | omega | assumption | decide | (dsimp only; omega) | exact lt_line (by omega) | exact le_line (by omega) | exact lt_line (by simp <;> omega) | exact le_line (by simp <;> omega) | exact ⟨by decide, by decide, by decide⟩ | exact ⟨by omega, by omega, by omega⟩ | exact List.cons_ne_nil _ _ | exact CMul_l (by omega) | exact CMul_r (by omega) | exact tyM_list (by (first | exact mup_same | assumption | (exact look_new (by assumption) (by assumption)) | (exact look_new (look_new (by assumption) (by assumption)) (by assumption)))) | (first | exact mup_same | assumption | (exact look_new (by assumption) (by assumption)) | (exact look_new (look_new (by assumption) (by assumption)) (by assumption))) | (simp only [List.length_cons, List.length_nil, List.length_map, List.length_replicate, List.length_append, rangeA_len] <;> omega)))
local macro_rules | `(tactic| decreasing_tactic) => `(tactic| ((conv => whnf); repeat (first | (refine And.intro (by infer_instance) ?_; (conv => whnf)) | (refine And.intro (by infer_instance) fun _ hr => fz_new hr ?_; (conv => whnf)) | (refine fun _ hr => fz_new hr ?_; (conv => whnf)) | (refine onIf_ndecF (by with_reducible rfl) ?_; (conv => whnf)) | (refine onIf_decT (by with_reducible rfl) ?_; (conv => whnf)) | (refine onIf_decT (by omega) ?_; (conv => whnf)) | (refine onIf_decF (by omega) ?_; (conv => whnf)) | (refine onIf_ndecT (by omega) ?_; (conv => whnf)) | (refine onIf_ndecF (by omega) ?_; (conv => whnf)) | (refine onIf_decT (congrArg Dv.int (by omega)) ?_; (conv => whnf)) | (refine onIf_decF (fun h => absurd (Dv.int.inj h) (by omega)) ?_; (conv => whnf)) | (refine onIf_ndecT (fun h => absurd (Dv.int.inj h) (by omega)) ?_; (conv => whnf)) | (refine onIf_ndecF (congrArg Dv.int (by omega)) ?_; (conv => whnf)) | (refine ⟨_, (by (first | exact kit_ii | exact kit_ib | exact kit_it | exact kit_is | exact kit_bi | exact kit_bb | exact kit_bt | exact kit_bs | exact kit_ti | exact kit_tb | exact kit_tt | exact kit_ts | exact kit_si | exact kit_sb | exact kit_st | exact kit_ss | exact kit_ni | exact kit_nb | exact kit_nt | exact kit_ns | exact kit_li | exact kit_lb | exact kit_lt | exact kit_ls)), ?_⟩; (conv => whnf)) | (refine onS_of (itemsA_l (by (first | exact mup_same | assumption | (exact look_new (by assumption) (by assumption)) | (exact look_new (look_new (by assumption) (by assumption)) (by assumption))))) ?_; (conv => whnf)) | (refine onS_of (lstA_l (by (first | exact mup_same | assumption | (exact look_new (by assumption) (by assumption)) | (exact look_new (look_new (by assumption) (by assumption)) (by assumption))))) ?_; (conv => whnf)) | (refine onS_of (lstC_l (by (first | exact mup_same | assumption | (exact look_new (by assumption) (by assumption)) | (exact look_new (look_new (by assumption) (by assumption)) (by assumption))))) ?_; (conv => whnf)) | (refine onS_of (lenA_l (by (first | exact mup_same | assumption | (exact look_new (by assumption) (by assumption)) | (exact look_new (look_new (by assumption) (by assumption)) (by assumption))))) ?_; (conv => whnf)))))
theorem sc_law_next : FnScope [("_law_state_here" : Str), ("_law_many" : Str), ("_law_digit" : Str)] [("_law_state_here" : Str), ("_law_many" : Str)] (defScope s_law_next) := ⟨rfl, rfl, rfl, by decide +kernel, rfl, by decide +kernel, by decide +kernel⟩
abbrev N_law_blocks : List Str := [("_law_pot" : Str), ("_law_store_here" : Str), ("_law_many" : Str), ("_law_way" : Str), ("_law_first" : Str), ("_law_number" : Str), ("_law_k" : Str)]
theorem sc_law_blocks : FnScope [("_law_pot" : Str), ("_law_store_here" : Str), ("_law_many" : Str), ("_law_way" : Str), ("_law_first" : Str), ("_law_number" : Str), ("_law_k" : Str)] [("_law_pot" : Str), ("_law_store_here" : Str)] (defScope s_law_blocks) := ⟨rfl, rfl, rfl, by decide +kernel, rfl, by decide +kernel, by decide +kernel⟩
theorem sc_law_width : FnScope [("_law_store_here" : Str), ("_law_row" : Str)] [("_law_store_here" : Str), ("_law_row" : Str)] (defScope s_law_width) := ⟨rfl, rfl, rfl, by decide +kernel, rfl, by decide +kernel, by decide +kernel⟩
abbrev N_law_readable : List Str := [("_law_store_here" : Str), ("_law_row" : Str), ("_law_disks" : Str), ("_law_disk" : Str), ("_law_blocks_here" : Str)]
theorem sc_law_readable : FnScope [("_law_store_here" : Str), ("_law_row" : Str), ("_law_disks" : Str), ("_law_disk" : Str), ("_law_blocks_here" : Str)] [("_law_store_here" : Str), ("_law_row" : Str)] (defScope s_law_readable) := ⟨rfl, rfl, rfl, by decide +kernel, rfl, by decide +kernel, by decide +kernel⟩
theorem sc_law_any : FnScope [("_law_store_here" : Str), ("_law_row" : Str), ("_law_many" : Str), ("_law_disks" : Str)] [("_law_store_here" : Str), ("_law_row" : Str)] (defScope s_law_any) := ⟨rfl, rfl, rfl, by decide +kernel, rfl, by decide +kernel, by decide +kernel⟩
theorem sc_law_spot : FnScope [("_law_store_here" : Str), ("_law_number" : Str), ("_law_many" : Str), ("_law_row" : Str), ("_law_place" : Str)] [("_law_store_here" : Str), ("_law_number" : Str)] (defScope s_law_spot) := ⟨rfl, rfl, rfl, by decide +kernel, rfl, by decide +kernel, by decide +kernel⟩
abbrev N_law_read_needs : List Str := [("_law_store_here" : Str), ("_law_blocks_here" : Str), ("_law_wanted" : Str), ("_law_number" : Str), ("_law_row" : Str), ("_law_disk" : Str), ("_law_needs" : Str), ("_law_some" : Str), ("_law_apart" : Str)]
theorem sc_law_read_needs : FnScope [("_law_store_here" : Str), ("_law_blocks_here" : Str), ("_law_wanted" : Str), ("_law_number" : Str), ("_law_row" : Str), ("_law_disk" : Str), ("_law_needs" : Str), ("_law_some" : Str), ("_law_apart" : Str)] [("_law_store_here" : Str), ("_law_blocks_here" : Str)] (defScope s_law_read_needs) := ⟨rfl, rfl, rfl, by decide +kernel, rfl, by decide +kernel, by decide +kernel⟩
abbrev N_law_fit : List Str := [("_law_store_here" : Str), ("_law_blocks_here" : Str), ("_law_open_rows" : Str), ("_law_need" : Str), ("_law_number" : Str)]
theorem sc_law_fit : FnScope [("_law_store_here" : Str), ("_law_blocks_here" : Str), ("_law_open_rows" : Str), ("_law_need" : Str), ("_law_number" : Str)] [("_law_store_here" : Str), ("_law_blocks_here" : Str)] (defScope s_law_fit) := ⟨rfl, rfl, rfl, by decide +kernel, rfl, by decide +kernel, by decide +kernel⟩
theorem sc_law_whole : FnScope [("_law_thing" : Str)] [("_law_thing" : Str)] (defScope s_law_whole) := ⟨rfl, rfl, rfl, by decide +kernel, rfl, by decide +kernel, by decide +kernel⟩
abbrev N_law_rising : List Str := [("_law_thing" : Str), ("_law_part" : Str), ("_law_k" : Str)]
theorem sc_law_rising : FnScope [("_law_thing" : Str), ("_law_part" : Str), ("_law_k" : Str)] [("_law_thing" : Str)] (defScope s_law_rising) := ⟨rfl, rfl, rfl, by decide +kernel, rfl, by decide +kernel, by decide +kernel⟩
abbrev N_law_meets : List Str := [("_law_plan" : Str), ("_law_needs" : Str), ("_law_part" : Str), ("_law_need" : Str), ("_law_disk" : Str)]
theorem sc_law_meets : FnScope [("_law_plan" : Str), ("_law_needs" : Str), ("_law_part" : Str), ("_law_need" : Str), ("_law_disk" : Str)] [("_law_plan" : Str), ("_law_needs" : Str)] (defScope s_law_meets) := ⟨rfl, rfl, rfl, by decide +kernel, rfl, by decide +kernel, by decide +kernel⟩
abbrev N_law_state : List Str := [("_law_script" : Str), ("_law_seed" : Str), ("_law_cell" : Str)]
theorem sc_law_state : FnScope [("_law_script" : Str), ("_law_seed" : Str), ("_law_cell" : Str)] [("_law_script" : Str)] (defScope s_law_state) := ⟨rfl, rfl, rfl, by decide +kernel, rfl, by decide +kernel, by decide +kernel⟩
abbrev N_law_store : List Str := [("_law_pot" : Str), ("_law_great" : Str), ("_law_parities" : Str), ("_law_width_here" : Str), ("_law_size" : Str), ("_law_rows" : Str), ("_law_grows" : Str), ("_law_moved" : Str), ("_law_table" : Str), ("_law_k" : Str), ("_law_disks" : Str), ("_law_disk" : Str), ("_law_row" : Str), ("_law_blocks_here" : Str)]
theorem sc_law_store : FnScope [("_law_pot" : Str), ("_law_great" : Str), ("_law_parities" : Str), ("_law_width_here" : Str), ("_law_size" : Str), ("_law_rows" : Str), ("_law_grows" : Str), ("_law_moved" : Str), ("_law_table" : Str), ("_law_k" : Str), ("_law_disks" : Str), ("_law_disk" : Str), ("_law_row" : Str), ("_law_blocks_here" : Str)] [("_law_pot" : Str)] (defScope s_law_store) := ⟨rfl, rfl, rfl, by decide +kernel, rfl, by decide +kernel, by decide +kernel⟩
theorem sc_blocks_kept : FnScope [("store" : Str), ("parities" : Str), ("size" : Str), ("rows" : Str), ("width" : Str)] [("store" : Str)] (defScope s_blocks_kept) := ⟨rfl, rfl, rfl, by decide +kernel, rfl, by decide +kernel, by decide +kernel⟩
theorem sc_look_whole : FnScope [("store" : Str)] [("store" : Str)] (defScope s_look_whole) := ⟨rfl, rfl, rfl, by decide +kernel, rfl, by decide +kernel, by decide +kernel⟩
abbrev N_look_wanted : List Str := [("store" : Str), ("wanted" : Str), ("number" : Str)]
theorem sc_look_wanted : FnScope [("store" : Str), ("wanted" : Str), ("number" : Str)] [("store" : Str), ("wanted" : Str)] (defScope s_look_wanted) := ⟨rfl, rfl, rfl, by decide +kernel, rfl, by decide +kernel, by decide +kernel⟩
theorem sc_disk_of : FnScope [("row" : Str), ("place" : Str), ("width" : Str)] [("row" : Str), ("place" : Str), ("width" : Str)] (defScope s_disk_of) := ⟨rfl, rfl, rfl, by decide +kernel, rfl, by decide +kernel, by decide +kernel⟩
theorem sc_row_width : FnScope [("store" : Str), ("row" : Str)] [("store" : Str), ("row" : Str)] (defScope s_row_width) := ⟨rfl, rfl, rfl, by decide +kernel, rfl, by decide +kernel, by decide +kernel⟩
theorem sc_row_blocks : FnScope [("store" : Str), ("row" : Str), ("width" : Str), ("blocks" : Str), ("place" : Str), ("disk" : Str)] [("store" : Str), ("row" : Str)] (defScope s_row_blocks) := ⟨rfl, rfl, rfl, by decide +kernel, rfl, by decide +kernel, by decide +kernel⟩
abbrev N_disks_read : List Str := [("store" : Str), ("row" : Str), ("width" : Str), ("blocks" : Str), ("place" : Str)]
theorem sc_disks_read : FnScope [("store" : Str), ("row" : Str), ("width" : Str), ("blocks" : Str), ("place" : Str)] [("store" : Str), ("row" : Str)] (defScope s_disks_read) := ⟨rfl, rfl, rfl, by decide +kernel, rfl, by decide +kernel, by decide +kernel⟩
theorem sc_any_need : FnScope [("store" : Str), ("row" : Str), ("many" : Str), ("disks" : Str)] [("store" : Str), ("row" : Str)] (defScope s_any_need) := ⟨rfl, rfl, rfl, by decide +kernel, rfl, by decide +kernel, by decide +kernel⟩
abbrev N_row_need : List Str := [("store" : Str), ("row" : Str), ("places" : Str), ("width" : Str), ("blocks" : Str), ("readable" : Str), ("disks" : Str), ("place" : Str)]
theorem sc_row_need : FnScope [("store" : Str), ("row" : Str), ("places" : Str), ("width" : Str), ("blocks" : Str), ("readable" : Str), ("disks" : Str), ("place" : Str)] [("store" : Str), ("row" : Str), ("places" : Str)] (defScope s_row_need) := ⟨rfl, rfl, rfl, by decide +kernel, rfl, by decide +kernel, by decide +kernel⟩
theorem sc_spot_of : FnScope [("block" : Str), ("width" : Str), ("parities" : Str), ("many" : Str)] [("block" : Str), ("width" : Str), ("parities" : Str)] (defScope s_spot_of) := ⟨rfl, rfl, rfl, by decide +kernel, rfl, by decide +kernel, by decide +kernel⟩
theorem sc_spot_now : FnScope [("store" : Str), ("block" : Str), ("parities" : Str), ("size" : Str), ("rows" : Str), ("width" : Str), ("moved" : Str), ("spares" : Str), ("spot" : Str)] [("store" : Str), ("block" : Str)] (defScope s_spot_now) := ⟨rfl, rfl, rfl, by decide +kernel, rfl, by decide +kernel, by decide +kernel⟩
theorem sc_wanted_places : FnScope [("store" : Str), ("wanted" : Str), ("places" : Str), ("number" : Str), ("row" : Str), ("place" : Str)] [("store" : Str), ("wanted" : Str)] (defScope s_wanted_places) := ⟨rfl, rfl, rfl, by decide +kernel, rfl, by decide +kernel, by decide +kernel⟩
abbrev N_read_needs : List Str := [("store" : Str), ("wanted" : Str), ("places" : Str), ("row" : Str)]
theorem sc_read_needs : FnScope [("store" : Str), ("wanted" : Str), ("places" : Str), ("row" : Str)] [("store" : Str), ("wanted" : Str)] (defScope s_read_needs) := ⟨rfl, rfl, rfl, by decide +kernel, rfl, by decide +kernel, by decide +kernel⟩
abbrev N_Spread___init__ : List Str := [("self" : Str), ("needs" : Str), ("width" : Str), ("row" : Str), ("disks" : Str), ("many" : Str), ("idle" : Str), ("load" : Str), ("disk" : Str)]
theorem sc_Spread___init__ : FnScope [("self" : Str), ("needs" : Str), ("width" : Str), ("row" : Str), ("disks" : Str), ("many" : Str), ("idle" : Str), ("load" : Str), ("disk" : Str)] [("self" : Str), ("needs" : Str), ("width" : Str)] (defScope s_Spread___init__) := ⟨rfl, rfl, rfl, by decide +kernel, rfl, by decide +kernel, by decide +kernel⟩
theorem sc_Spread_busiest : FnScope [("self" : Str)] [("self" : Str)] (defScope s_Spread_busiest) := ⟨rfl, rfl, rfl, by decide +kernel, rfl, by decide +kernel, by decide +kernel⟩
abbrev N_Spread_exchanges : List Str := [("self" : Str), ("disk" : Str), ("some" : Str), ("number" : Str), ("reads" : Str), ("other" : Str)]
theorem sc_Spread_exchanges : FnScope [("self" : Str), ("disk" : Str), ("some" : Str), ("number" : Str), ("reads" : Str), ("other" : Str)] [("self" : Str), ("disk" : Str)] (defScope s_Spread_exchanges) := ⟨rfl, rfl, rfl, by decide +kernel, rfl, by decide +kernel, by decide +kernel⟩
theorem sc_Spread_reached : FnScope [("self" : Str), ("disk" : Str), ("found" : Str), ("waiting" : Str), ("here" : Str), ("number" : Str), ("other" : Str)] [("self" : Str), ("disk" : Str)] (defScope s_Spread_reached) := ⟨rfl, rfl, rfl, by decide +kernel, rfl, by decide +kernel, by decide +kernel⟩
theorem sc_Spread_shift : FnScope [("self" : Str), ("found" : Str), ("disk" : Str), ("number" : Str), ("ahead" : Str)] [("self" : Str), ("found" : Str), ("disk" : Str)] (defScope s_Spread_shift) := ⟨rfl, rfl, rfl, by decide +kernel, rfl, by decide +kernel, by decide +kernel⟩
abbrev N_Spread_eased : List Str := [("self" : Str), ("most" : Str), ("found" : Str), ("idle" : Str), ("disk" : Str)]
theorem sc_Spread_eased : FnScope [("self" : Str), ("most" : Str), ("found" : Str), ("idle" : Str), ("disk" : Str)] [("self" : Str)] (defScope s_Spread_eased) := ⟨rfl, rfl, rfl, by decide +kernel, rfl, by decide +kernel, by decide +kernel⟩
abbrev N_Spread_plan : List Str := [("self" : Str), ("need" : Str), ("reads" : Str)]
theorem sc_Spread_plan : FnScope [("self" : Str), ("need" : Str), ("reads" : Str)] [("self" : Str)] (defScope s_Spread_plan) := ⟨rfl, rfl, rfl, by decide +kernel, rfl, by decide +kernel, by decide +kernel⟩
theorem sc_spread_of : FnScope [("needs" : Str), ("width" : Str), ("spread" : Str), ("paper" : Str)] [("needs" : Str), ("width" : Str)] (defScope s_spread_of) := ⟨rfl, rfl, rfl, by decide +kernel, rfl, by decide +kernel, by decide +kernel⟩
theorem sc_read_plan : FnScope [("store" : Str), ("blocks" : Str)] [("store" : Str), ("blocks" : Str)] (defScope s_read_plan) := ⟨rfl, rfl, rfl, by decide +kernel, rfl, by decide +kernel, by decide +kernel⟩
theorem sc_law : FnScope [("_law_script" : Str), ("_law_pot" : Str), ("_law_store_here" : Str), ("_law_turn" : Str), ("_law_blocks_here" : Str), ("_law_needs" : Str), ("_law_told" : Str)] [("_law_script" : Str)] (defScope s_law) := ⟨rfl, rfl, rfl, by decide +kernel, rfl, by decide +kernel, by decide +kernel⟩
set_option genInjectivity false in
set_option genSizeOf false in
set_option genSizeOfSpec false in
set_option maxHeartbeats 0 in
structure Tx (K : PySem.W.Frag) (mg : Str → Option Value) where
  n_abs : mg ("abs" : Str) = none
  n_all : mg ("all" : Str) = none
  n_any : mg ("any" : Str) = none
  n_bool : mg ("bool" : Str) = none
  n_enumerate : mg ("enumerate" : Str) = none
  n_int : mg ("int" : Str) = none
  n_isinstance : mg ("isinstance" : Str) = none
  n_len : mg ("len" : Str) = none
  n_list : mg ("list" : Str) = none
  n_max : mg ("max" : Str) = none
  n_min : mg ("min" : Str) = none
  n_range : mg ("range" : Str) = none
  n_set : mg ("set" : Str) = none
  n_sorted : mg ("sorted" : Str) = none
  n_tuple : mg ("tuple" : Str) = none
  n_zip : mg ("zip" : Str) = none
  f_law_next : Addr
  d_law_next : FuncData
  F_law_next : Fun K ("_law_next" : Str) ("_law_next" : Str) s_law_next f_law_next d_law_next
  m_law_next : mg ("_law_next" : Str) = some (.ref f_law_next)
  b_law_next : Binds K d_law_next [("_law_state_here" : Str), ("_law_many" : Str)] []
  f_law_blocks : Addr
  d_law_blocks : FuncData
  F_law_blocks : Fun K ("_law_blocks" : Str) ("_law_blocks" : Str) s_law_blocks f_law_blocks d_law_blocks
  m_law_blocks : mg ("_law_blocks" : Str) = some (.ref f_law_blocks)
  b_law_blocks : Binds K d_law_blocks [("_law_pot" : Str), ("_law_store_here" : Str)] []
  f_law_width : Addr
  d_law_width : FuncData
  F_law_width : Fun K ("_law_width" : Str) ("_law_width" : Str) s_law_width f_law_width d_law_width
  m_law_width : mg ("_law_width" : Str) = some (.ref f_law_width)
  b_law_width : Binds K d_law_width [("_law_store_here" : Str), ("_law_row" : Str)] []
  f_law_readable : Addr
  d_law_readable : FuncData
  F_law_readable : Fun K ("_law_readable" : Str) ("_law_readable" : Str) s_law_readable f_law_readable d_law_readable
  m_law_readable : mg ("_law_readable" : Str) = some (.ref f_law_readable)
  b_law_readable : Binds K d_law_readable [("_law_store_here" : Str), ("_law_row" : Str)] []
  f_law_any : Addr
  d_law_any : FuncData
  F_law_any : Fun K ("_law_any" : Str) ("_law_any" : Str) s_law_any f_law_any d_law_any
  m_law_any : mg ("_law_any" : Str) = some (.ref f_law_any)
  b_law_any : Binds K d_law_any [("_law_store_here" : Str), ("_law_row" : Str)] []
  f_law_spot : Addr
  d_law_spot : FuncData
  F_law_spot : Fun K ("_law_spot" : Str) ("_law_spot" : Str) s_law_spot f_law_spot d_law_spot
  m_law_spot : mg ("_law_spot" : Str) = some (.ref f_law_spot)
  b_law_spot : Binds K d_law_spot [("_law_store_here" : Str), ("_law_number" : Str)] []
  f_law_read_needs : Addr
  d_law_read_needs : FuncData
  F_law_read_needs : Fun K ("_law_read_needs" : Str) ("_law_read_needs" : Str) s_law_read_needs f_law_read_needs d_law_read_needs
  m_law_read_needs : mg ("_law_read_needs" : Str) = some (.ref f_law_read_needs)
  b_law_read_needs : Binds K d_law_read_needs [("_law_store_here" : Str), ("_law_blocks_here" : Str)] []
  f_law_fit : Addr
  d_law_fit : FuncData
  F_law_fit : Fun K ("_law_fit" : Str) ("_law_fit" : Str) s_law_fit f_law_fit d_law_fit
  m_law_fit : mg ("_law_fit" : Str) = some (.ref f_law_fit)
  b_law_fit : Binds K d_law_fit [("_law_store_here" : Str), ("_law_blocks_here" : Str)] []
  f_law_whole : Addr
  d_law_whole : FuncData
  F_law_whole : Fun K ("_law_whole" : Str) ("_law_whole" : Str) s_law_whole f_law_whole d_law_whole
  m_law_whole : mg ("_law_whole" : Str) = some (.ref f_law_whole)
  b_law_whole : Binds K d_law_whole [("_law_thing" : Str)] []
  f_law_rising : Addr
  d_law_rising : FuncData
  F_law_rising : Fun K ("_law_rising" : Str) ("_law_rising" : Str) s_law_rising f_law_rising d_law_rising
  m_law_rising : mg ("_law_rising" : Str) = some (.ref f_law_rising)
  b_law_rising : Binds K d_law_rising [("_law_thing" : Str)] []
  f_law_meets : Addr
  d_law_meets : FuncData
  F_law_meets : Fun K ("_law_meets" : Str) ("_law_meets" : Str) s_law_meets f_law_meets d_law_meets
  m_law_meets : mg ("_law_meets" : Str) = some (.ref f_law_meets)
  b_law_meets : Binds K d_law_meets [("_law_plan" : Str), ("_law_needs" : Str)] []
  f_law_state : Addr
  d_law_state : FuncData
  F_law_state : Fun K ("_law_state" : Str) ("_law_state" : Str) s_law_state f_law_state d_law_state
  m_law_state : mg ("_law_state" : Str) = some (.ref f_law_state)
  b_law_state : Binds K d_law_state [("_law_script" : Str)] []
  f_law_store : Addr
  d_law_store : FuncData
  F_law_store : Fun K ("_law_store" : Str) ("_law_store" : Str) s_law_store f_law_store d_law_store
  m_law_store : mg ("_law_store" : Str) = some (.ref f_law_store)
  b_law_store : Binds K d_law_store [("_law_pot" : Str)] []
  f_blocks_kept : Addr
  d_blocks_kept : FuncData
  F_blocks_kept : Fun K ("blocks_kept" : Str) ("blocks_kept" : Str) s_blocks_kept f_blocks_kept d_blocks_kept
  m_blocks_kept : mg ("blocks_kept" : Str) = some (.ref f_blocks_kept)
  b_blocks_kept : Binds K d_blocks_kept [("store" : Str)] []
  f_look_whole : Addr
  d_look_whole : FuncData
  F_look_whole : Fun K ("look_whole" : Str) ("look_whole" : Str) s_look_whole f_look_whole d_look_whole
  m_look_whole : mg ("look_whole" : Str) = some (.ref f_look_whole)
  b_look_whole : Binds K d_look_whole [("store" : Str)] []
  f_look_wanted : Addr
  d_look_wanted : FuncData
  F_look_wanted : Fun K ("look_wanted" : Str) ("look_wanted" : Str) s_look_wanted f_look_wanted d_look_wanted
  m_look_wanted : mg ("look_wanted" : Str) = some (.ref f_look_wanted)
  b_look_wanted : Binds K d_look_wanted [("store" : Str), ("wanted" : Str)] []
  f_disk_of : Addr
  d_disk_of : FuncData
  F_disk_of : Fun K ("disk_of" : Str) ("disk_of" : Str) s_disk_of f_disk_of d_disk_of
  m_disk_of : mg ("disk_of" : Str) = some (.ref f_disk_of)
  b_disk_of : Binds K d_disk_of [("row" : Str), ("place" : Str), ("width" : Str)] []
  f_row_width : Addr
  d_row_width : FuncData
  F_row_width : Fun K ("row_width" : Str) ("row_width" : Str) s_row_width f_row_width d_row_width
  m_row_width : mg ("row_width" : Str) = some (.ref f_row_width)
  b_row_width : Binds K d_row_width [("store" : Str), ("row" : Str)] []
  f_row_blocks : Addr
  d_row_blocks : FuncData
  F_row_blocks : Fun K ("row_blocks" : Str) ("row_blocks" : Str) s_row_blocks f_row_blocks d_row_blocks
  m_row_blocks : mg ("row_blocks" : Str) = some (.ref f_row_blocks)
  b_row_blocks : Binds K d_row_blocks [("store" : Str), ("row" : Str)] []
  f_disks_read : Addr
  d_disks_read : FuncData
  F_disks_read : Fun K ("disks_read" : Str) ("disks_read" : Str) s_disks_read f_disks_read d_disks_read
  m_disks_read : mg ("disks_read" : Str) = some (.ref f_disks_read)
  b_disks_read : Binds K d_disks_read [("store" : Str), ("row" : Str)] []
  f_any_need : Addr
  d_any_need : FuncData
  F_any_need : Fun K ("any_need" : Str) ("any_need" : Str) s_any_need f_any_need d_any_need
  m_any_need : mg ("any_need" : Str) = some (.ref f_any_need)
  b_any_need : Binds K d_any_need [("store" : Str), ("row" : Str)] []
  f_row_need : Addr
  d_row_need : FuncData
  F_row_need : Fun K ("row_need" : Str) ("row_need" : Str) s_row_need f_row_need d_row_need
  m_row_need : mg ("row_need" : Str) = some (.ref f_row_need)
  b_row_need : Binds K d_row_need [("store" : Str), ("row" : Str), ("places" : Str)] []
  f_spot_of : Addr
  d_spot_of : FuncData
  F_spot_of : Fun K ("spot_of" : Str) ("spot_of" : Str) s_spot_of f_spot_of d_spot_of
  m_spot_of : mg ("spot_of" : Str) = some (.ref f_spot_of)
  b_spot_of : Binds K d_spot_of [("block" : Str), ("width" : Str), ("parities" : Str)] []
  f_spot_now : Addr
  d_spot_now : FuncData
  F_spot_now : Fun K ("spot_now" : Str) ("spot_now" : Str) s_spot_now f_spot_now d_spot_now
  m_spot_now : mg ("spot_now" : Str) = some (.ref f_spot_now)
  b_spot_now : Binds K d_spot_now [("store" : Str), ("block" : Str)] []
  f_wanted_places : Addr
  d_wanted_places : FuncData
  F_wanted_places : Fun K ("wanted_places" : Str) ("wanted_places" : Str) s_wanted_places f_wanted_places d_wanted_places
  m_wanted_places : mg ("wanted_places" : Str) = some (.ref f_wanted_places)
  b_wanted_places : Binds K d_wanted_places [("store" : Str), ("wanted" : Str)] []
  f_read_needs : Addr
  d_read_needs : FuncData
  F_read_needs : Fun K ("read_needs" : Str) ("read_needs" : Str) s_read_needs f_read_needs d_read_needs
  m_read_needs : mg ("read_needs" : Str) = some (.ref f_read_needs)
  b_read_needs : Binds K d_read_needs [("store" : Str), ("wanted" : Str)] []
  f_Spread___init__ : Addr
  d_Spread___init__ : FuncData
  F_Spread___init__ : Fun K ("__init__" : Str) ("Spread.__init__" : Str) s_Spread___init__ f_Spread___init__ d_Spread___init__
  b_Spread___init__ : Binds K d_Spread___init__ [("self" : Str), ("needs" : Str), ("width" : Str)] []
  f_Spread_busiest : Addr
  d_Spread_busiest : FuncData
  F_Spread_busiest : Fun K ("busiest" : Str) ("Spread.busiest" : Str) s_Spread_busiest f_Spread_busiest d_Spread_busiest
  b_Spread_busiest : Binds K d_Spread_busiest [("self" : Str)] []
  f_Spread_exchanges : Addr
  d_Spread_exchanges : FuncData
  F_Spread_exchanges : Fun K ("exchanges" : Str) ("Spread.exchanges" : Str) s_Spread_exchanges f_Spread_exchanges d_Spread_exchanges
  b_Spread_exchanges : Binds K d_Spread_exchanges [("self" : Str), ("disk" : Str)] []
  f_Spread_reached : Addr
  d_Spread_reached : FuncData
  F_Spread_reached : Fun K ("reached" : Str) ("Spread.reached" : Str) s_Spread_reached f_Spread_reached d_Spread_reached
  b_Spread_reached : Binds K d_Spread_reached [("self" : Str), ("disk" : Str)] []
  f_Spread_shift : Addr
  d_Spread_shift : FuncData
  F_Spread_shift : Fun K ("shift" : Str) ("Spread.shift" : Str) s_Spread_shift f_Spread_shift d_Spread_shift
  b_Spread_shift : Binds K d_Spread_shift [("self" : Str), ("found" : Str), ("disk" : Str)] []
  f_Spread_eased : Addr
  d_Spread_eased : FuncData
  F_Spread_eased : Fun K ("eased" : Str) ("Spread.eased" : Str) s_Spread_eased f_Spread_eased d_Spread_eased
  b_Spread_eased : Binds K d_Spread_eased [("self" : Str)] []
  f_Spread_plan : Addr
  d_Spread_plan : FuncData
  F_Spread_plan : Fun K ("plan" : Str) ("Spread.plan" : Str) s_Spread_plan f_Spread_plan d_Spread_plan
  b_Spread_plan : Binds K d_Spread_plan [("self" : Str)] []
  f_spread_of : Addr
  d_spread_of : FuncData
  F_spread_of : Fun K ("spread_of" : Str) ("spread_of" : Str) s_spread_of f_spread_of d_spread_of
  m_spread_of : mg ("spread_of" : Str) = some (.ref f_spread_of)
  b_spread_of : Binds K d_spread_of [("needs" : Str), ("width" : Str)] []
  f_read_plan : Addr
  d_read_plan : FuncData
  F_read_plan : Fun K ("read_plan" : Str) ("read_plan" : Str) s_read_plan f_read_plan d_read_plan
  m_read_plan : mg ("read_plan" : Str) = some (.ref f_read_plan)
  b_read_plan : Binds K d_read_plan [("store" : Str), ("blocks" : Str)] []
  f_law : Addr
  d_law : FuncData
  F_law : Fun K ("law" : Str) ("law" : Str) s_law f_law d_law
  m_law : mg ("law" : Str) = some (.ref f_law)
  b_law : Binds K d_law [("_law_script" : Str)] []
  ck_Spread : Addr
  kl_Spread : KlF K ("Spread" : Str) ck_Spread
  gk_Spread : mg ("Spread" : Str) = some (.ref ck_Spread)
  no_Spread_loads : NoAttr K ck_Spread ("loads" : Str)
  no_Spread_needs : NoAttr K ck_Spread ("needs" : Str)
  no_Spread_reads : NoAttr K ck_Spread ("reads" : Str)
  mk_Spread : Mk K ck_Spread f_Spread___init__
  me_Spread_busiest : Meth K ck_Spread ("busiest" : Str) f_Spread_busiest
  me_Spread_exchanges : Meth K ck_Spread ("exchanges" : Str) f_Spread_exchanges
  me_Spread_reached : Meth K ck_Spread ("reached" : Str) f_Spread_reached
  me_Spread_shift : Meth K ck_Spread ("shift" : Str) f_Spread_shift
  me_Spread_eased : Meth K ck_Spread ("eased" : Str) f_Spread_eased
  me_Spread_plan : Meth K ck_Spread ("plan" : Str) f_Spread_plan
variable {P : Program} {w : World} {K : PySem.W.Frag} {mg : Str → Option Value} {base : Heap}
def sp_law_next : ASp := fun ds M Q => ∃ p q, ∃ m : Int, ds = [.ref p, .int m] ∧ DPot p q M ∧ 0 < m ∧ m < 1000000000000000000000000 ∧
  ∀ (v : Nat) M', DPot p q M' → But p q M M' → (v : Int) < m → Q (dn v) M'
def tk_law_next_2 : RS := (aRet (aOp aMod (aOp aDiv (aOp aIx (aVar 0) (aC (.int 0))) (aC (.int 131071))) (aVar 1)))
def tk_law_next_1 : RS := aSeq (aAsg (aOp aMod (aOp aAdd (aOp aMul (aOp aIx (aVar 0) (aC (.int 0))) (aC (.int 2862933555777941757))) (aC (.int 3037000493))) (aC (.int 2305843009213693951))) (agSub (aVar 0) (aC (.int 0)) asSet)) (tk_law_next_2)
def t_law_next : RS := aSeq (aIfS (aB (aOp aGt (aFn acLen (aCons (aVar 0) aNil)) (aC (.int 1)))) (aSeq (aAsg (aOp aMod (aOp aIx (aVar 0) (aC (.int 0))) (aVar 1)) (agName 2))
    (aSeq (aAsg (aOp aDiv (aOp aIx (aVar 0) (aC (.int 0))) (aVar 1)) (agSub (aVar 0) (aC (.int 0)) asSet))
    (aSeq (aIfS (aB (aOp aEq (aOp aIx (aVar 0) (aC (.int 0))) (aC (.int 0)))) (aDrop (aMth "list" amPop (aVar 0) (aCons (aC (.int 0)) aNil))) aNext)
    (aRet (aVar 2))))) aNext) (tk_law_next_1)
theorem len_law_next : ∀ ds M Q, sp_law_next ds M Q → ds.length = 2 := by
  rintro ds M Q ⟨p, q, m, rfl, _⟩
  rfl
theorem spec_law_next : ∀ ds M Q, sp_law_next ds M Q → t_law_next (retD Q) (startA 3 ds) M := by
  rintro ds M Q ⟨p, q, m, rfl, ⟨e, ns, hp, n0, nl⟩, m0, m1, k0⟩
  have k : ∀ v M', DPot p q M' → But p q M M' → 0 ≤ v → v < m → Q (.int v) M' := fun v M' h1 h2 h3 h4 => by
    obtain ⟨n, rfl⟩ := Int.eq_ofNat_of_zero_le h3
    exact k0 n M' h1 h2 h4
  unfold drQ at hp
  cases ns with
  | nil => exact absurd rfl n0
  | cons x ns =>
    have a0 : ∀ y : Int, ∀ L : List Dv, atI (Dv.int y :: L) 0 = some (.int y) := fun y L => HC.atI_nat (i := 0) rfl
    have bp : ∀ c, But p q M (mup M p c) := fun c => (But.refl p q M).p
    cases ns with
    | nil =>
      have h1 : M p = some (.lst [.int x]) := hp
      ((repeat ((conv => whnf); simp only [lenA_r, itemsA_r, lstA_r, lstC_s, Option.map_some, atI_0, ixN_0, mup_same, mup_mup, true_and, and_true, List.map_cons, List.map_nil, List.length_cons, List.length_map, List.length_nil, List.set_cons_zero, List.set_cons_succ, List.cons_append, List.nil_append, List.getElem?_cons_zero, List.getElem?_cons_succ, h1])); (conv => whnf))
      refine ⟨.inl (.inr ⟨by decide, by decide⟩), ?_⟩
      decreasing_tactic
      ((repeat ((conv => whnf); simp only [lenA_r, itemsA_r, lstA_r, lstC_s, Option.map_some, atI_0, ixN_0, mup_same, mup_mup, true_and, and_true, List.map_cons, List.map_nil, List.length_cons, List.length_map, List.length_nil, List.set_cons_zero, List.set_cons_succ, List.cons_append, List.nil_append, List.getElem?_cons_zero, List.getElem?_cons_succ, h1])); (conv => whnf))
      generalize (x * 2862933555777941757 + 3037000493) % 2305843009213693951 = y
      refine ⟨by decide, ?_⟩
      decreasing_tactic
      ((repeat ((conv => whnf); simp only [lenA_r, itemsA_r, lstA_r, lstC_s, Option.map_some, atI_0, ixN_0, mup_same, mup_mup, true_and, and_true, List.map_cons, List.map_nil, List.length_cons, List.length_map, List.length_nil, List.set_cons_zero, List.set_cons_succ, List.cons_append, List.nil_append, List.getElem?_cons_zero, List.getElem?_cons_succ])); (conv => whnf))
      exact retEnd (k _ _ (DPot.set (ns := [y]) e (by simp) (by simp)) (bp _) (Int.emod_nonneg _ (by omega)) (Int.emod_lt_of_pos _ m0))
    | cons y ns =>
      have h1 : M p = some (.lst (.int x :: .int y :: ns.map Dv.int)) := hp
      ((repeat ((conv => whnf); simp only [lenA_r, itemsA_r, lstA_r, lstC_s, Option.map_some, atI_0, ixN_0, mup_same, mup_mup, true_and, and_true, List.map_cons, List.map_nil, List.length_cons, List.length_map, List.length_nil, List.set_cons_zero, List.set_cons_succ, List.cons_append, List.nil_append, List.getElem?_cons_zero, List.getElem?_cons_succ, h1])); (conv => whnf))
      rw [decide_eq_true (show (1 : Int) < ((ns.length + 1 + 1 : Nat) : Int) by omega)]
      decreasing_tactic
      ((repeat ((conv => whnf); simp only [lenA_r, itemsA_r, lstA_r, lstC_s, Option.map_some, atI_0, ixN_0, mup_same, mup_mup, true_and, and_true, List.map_cons, List.map_nil, List.length_cons, List.length_map, List.length_nil, List.set_cons_zero, List.set_cons_succ, List.cons_append, List.nil_append, List.getElem?_cons_zero, List.getElem?_cons_succ, h1])); (conv => whnf))
      refine ⟨m0, ?_⟩
      decreasing_tactic
      ((repeat ((conv => whnf); simp only [lenA_r, itemsA_r, lstA_r, lstC_s, Option.map_some, atI_0, ixN_0, mup_same, mup_mup, true_and, and_true, List.map_cons, List.map_nil, List.length_cons, List.length_map, List.length_nil, List.set_cons_zero, List.set_cons_succ, List.cons_append, List.nil_append, List.getElem?_cons_zero, List.getElem?_cons_succ, h1])); (conv => whnf))
      refine ⟨⟨m0, m1⟩, ?_⟩
      have nl2 : ns.length + 1 + 1 ≤ 1000000 := nl
      have h2 : mup M p (.lst (.int (x / m) :: .int y :: ns.map Dv.int)) p = some (.lst (.int (x / m) :: .int y :: ns.map Dv.int)) := mup_same
      have p2 : DPot p q (mup M p (.lst (.int (x / m) :: .int y :: ns.map Dv.int))) := DPot.set (ns := x / m :: y :: ns) e (by simp) nl
      have b2 := bp (.lst (.int (x / m) :: .int y :: ns.map Dv.int))
      have ix : ixN (ns.length + 1 + 1) 0 = some 0 := ixN_nat (n := ns.length + 1 + 1) (i := 0) (by omega)
      ((repeat ((conv => whnf); simp only [lenA_r, itemsA_r, lstA_r, lstC_s, Option.map_some, atI_0, ixN_0, mup_same, mup_mup, true_and, and_true, List.map_cons, List.map_nil, List.length_cons, List.length_map, List.length_nil, List.set_cons_zero, List.set_cons_succ, List.cons_append, List.nil_append, List.getElem?_cons_zero, List.getElem?_cons_succ, h1, ix])); (conv => whnf))
      generalize mup M p (.lst (.int (x / m) :: .int y :: ns.map Dv.int)) = M2 at h2 p2 b2 ⊢
      decreasing_tactic
      ((repeat ((conv => whnf); simp only [lenA_r, itemsA_r, lstA_r, lstC_s, Option.map_some, atI_0, ixN_0, mup_same, mup_mup, true_and, and_true, List.map_cons, List.map_nil, List.length_cons, List.length_map, List.length_nil, List.set_cons_zero, List.set_cons_succ, List.cons_append, List.nil_append, List.getElem?_cons_zero, List.getElem?_cons_succ, h2])); (conv => whnf))
      rw [HC.dec_int]
      by_cases c : x / m = 0
      · rw [decide_eq_true c]
        have p3 : DPot p q (mup M2 p (.lst (.int y :: ns.map Dv.int))) := DPot.set (ns := y :: ns) e (by simp) (by rw [List.length_cons]; omega)
        decreasing_tactic
        exact retEnd (k _ _ p3 b2.p (Int.emod_nonneg _ (by omega)) (Int.emod_lt_of_pos _ m0))
      · rw [decide_eq_false c]
        decreasing_tactic
        exact retEnd (k _ _ p2 b2 (Int.emod_nonneg _ (by omega)) (Int.emod_lt_of_pos _ m0))
theorem ok_law_next (T : Tx K mg) : FnA P w K mg base 1 T.f_law_next T.d_law_next [("_law_state_here" : Str), ("_law_many" : Str)] sp_law_next :=
  fnA T.F_law_next sc_law_next len_law_next (fun cdv A outer s H E hr => by
    have hu1 := hu_of hr
    have hu64 := hr.units
    exact (ass_cons (as_if (at_gt (ae_callB call_len abc_len (aa_cons (av 0) aa_nil) T.n_len boot_len) ae_int) (ass_cons (as_set 2 sc_law_next.nd (ae_mod (ae_ix hu1 (av 0) ae_int) (av 1)))
    (ass_cons (as_asg (ae_div (ae_ix hu1 (av 0) ae_int) (av 1)) (ag_sub hu1 (av 0) ae_int))
    (ass_cons (as_if (at_eq hu64 (ae_ix hu1 (av 0) ae_int) ae_int) (ass_one (as_expr (ae_popAt (av 0) (aa_cons ae_int aa_nil)))) ass_nil)
    (ass_one (as_ret (av 2)))))) ass_nil)
    (ass_cons (as_asg (ae_mod (ae_add (ae_mul (ae_ix hu1 (av 0) ae_int) ae_int) ae_int) ae_int) (ag_sub hu1 (av 0) ae_int))
    (ass_one (as_ret (ae_mod (ae_div (ae_ix hu1 (av 0) ae_int) ae_int) (av 1))))))) spec_law_next
def sp_law_blocks : ASp := fun ds M Q => ∃ p q, ∃ s : Store, ds = [.ref p, s.d] ∧ DPot p q M ∧ s.Ok ∧ ∀ (bs : List Nat) M', DPot p q M' → But p q M M' → bs.Pairwise (· < ·) → (∀ b ∈ bs, b < s.kept) → Q (.rol (dnsV bs)) M'
def tk_law_blocks_6 : RS := (aRet (aFz (aLstR1 (aVar 2))))
def tk_law_blocks_5 : RS := aSeq (aIfS (aB (aOp aEq (aVar 3) (aC (.int 2)))) (aRet (aFz (aSortSet (aFz (aLc (aiR1 (aCons (aCall sp_law_next (aCons (aVar 0) (aCons (aC (.int 6)) aNil))) aNil)) (.nm 6) [6] aYes (aCall sp_law_next (aCons (aVar 0) (aCons (aVar 2) aNil)))))))) aNext) (tk_law_blocks_6)
def tk_law_blocks_4 : RS := aSeq (aIfS (aB (aOp aEq (aVar 3) (aC (.int 1)))) (aRet (aFz (aLstR2 (aVar 4) (aFn acMin2 (aCons (aVar 2) (aCons (aOp aAdd (aVar 4) (aCall sp_law_next (aCons (aVar 0) (aCons (aC (.int 12)) aNil)))) aNil)))))) aNext) (tk_law_blocks_5)
def tk_law_blocks_3 : RS := aSeq (aIfS (aB (aOp aEq (aVar 3) (aC (.int 0)))) (aRet (aFz (aLc (aiR1 (aCons (aVar 2) aNil)) (.nm 5) [5] (aB (aOp aEq (aCall sp_law_next (aCons (aVar 0) (aCons (aC (.int 3)) aNil))) (aC (.int 0)))) (aVar 5)))) aNext) (tk_law_blocks_4)
def tk_law_blocks_2 : RS := aSeq (aAsg (aCall sp_law_next (aCons (aVar 0) (aCons (aVar 2) aNil))) (agName 4)) (tk_law_blocks_3)
def tk_law_blocks_1 : RS := aSeq (aAsg (aCall sp_law_next (aCons (aVar 0) (aCons (aC (.int 4)) aNil))) (agName 3)) (tk_law_blocks_2)
def t_law_blocks : RS := aSeq (aAsg (aOp aMul (aOp aIx (aOp aIx (aVar 1) (aC (.int 0))) (aC (.int 2))) (aOp aSub (aOp aIx (aOp aIx (aVar 1) (aC (.int 0))) (aC (.int 3))) (aOp aIx (aOp aIx (aVar 1) (aC (.int 0))) (aC (.int 0))))) (agName 2)) (tk_law_blocks_1)
theorem len_law_blocks : ∀ ds M Q, sp_law_blocks ds M Q → ds.length = 2 := by
  rintro ds M Q ⟨p, q, s, rfl, _⟩
  rfl
theorem spec_law_blocks : ∀ ds M Q, sp_law_blocks ds M Q → t_law_blocks (retD Q) (startA 7 ds) M := by
  rintro ds M Q ⟨p, q, s, rfl, hd, ok, k⟩
  have kl := kept_le ok
  have w1 := ok.head.width1
  have p1 := ok.head.par1
  have r1 := ok.head.rows1
  have kp : 0 < s.kept := Nat.mul_pos (by omega) (by omega)
  have e1 : ((s.head.width : Nat) : Int) - ((s.head.par : Nat) : Int) = ((s.head.width - s.head.par : Nat) : Int) := by omega
  have e2 : ((s.head.rows : Nat) : Int) * ((s.head.width - s.head.par : Nat) : Int) = ((s.kept : Nat) : Int) := (Int.natCast_mul _ _).symm
  have e3 : (((s.head.rows : Nat) : Int) * (((s.head.width : Nat) : Int) - ((s.head.par : Nat) : Int))) = ((s.kept : Nat) : Int) := by rw [e1, e2]
  decreasing_tactic
  refine ⟨CMul_l (by have := ok.head.rows2; omega), ?_⟩
  rw [e3]
  decreasing_tactic
  (refine ⟨_, _, _, rfl, by assumption, (by infer_instance), (by infer_instance), fun wa Mwa dwa bwa lwa => ?_⟩; decreasing_tactic)
  (refine ⟨_, _, _, rfl, by assumption, (by infer_instance), (by infer_instance), fun fi Mfi dfi bfi lfi => ?_⟩; decreasing_tactic)
  have b1 := bwa.trans bfi
  rw [HC.dec_int]
  by_cases c0 : wa = 0
  · subst c0
    rw [decide_eq_true (show ((0 : Nat) : Int) = 0 from rfl)]
    decreasing_tactic
    intro r hr
    have rp := dfi.nep hr
    have rq := dfi.neq hr
    refine lcW_inv (fun i M' => ∃ L : List Nat, DPot p q M' ∧ But p q Mfi (mdel M' r) ∧ M' r = some (.lst (dnsV L)) ∧ L.length ≤ i ∧ L.Pairwise (· < ·) ∧ ∀ x ∈ L, x < i) ⟨[], dfi.put rp rq, by rw [mdel_put]; exact (But.refl p q Mfi).del hr, mup_same, Nat.le_refl _, .nil, fun o ho => by cases ho⟩ (fun _ _ _ _ => trivial) ?_ ?_
    · rintro i d M' hi ⟨L, hd, hb, hl, hlen, hpw, hbd⟩
      obtain ⟨hi, rfl⟩ := rangeA_get hi
      have z0 : (0 : Int) + (i : Int) = (i : Int) := Int.zero_add _
      rw [z0]
      refine ⟨_, rfl, ?_⟩
      decreasing_tactic
      (refine ⟨_, _, _, rfl, by assumption, (by infer_instance), (by infer_instance), fun x Mx dx bx lx => ?_⟩; decreasing_tactic)
      have hl2 := bx.at rp rq hl
      have ll := dns_len L
      rw [HC.dec_int]
      by_cases cx : (x : Int) = 0
      · rw [decide_eq_true cx]
        decreasing_tactic
        refine ⟨_, hl2, lt_line (by omega), _, Sub.refl _, L ++ [i], dx.put rp rq, by rw [mdel_put]; exact hb.trans bx.mdel2, by rw [mup_same]; unfold dnsV; rw [List.map_append]; rfl, by simp; omega, List.pairwise_append.mpr ⟨hpw, List.pairwise_singleton _ _, fun a ha b hb => by rw [List.mem_singleton.mp hb]; exact hbd a ha⟩, fun z hz => ?_⟩
        rcases List.mem_append.mp hz with h3 | h3
        · have := hbd z h3; omega
        · rw [List.mem_singleton.mp h3]; omega
      · rw [decide_eq_false cx]
        decreasing_tactic
        refine ⟨_, Sub.refl _, L, dx, hb.trans bx.mdel2, hl2, by omega, hpw, fun z hz => by have := hbd z hz; omega⟩
    rintro M6 ⟨L, d6, b6, l6, Ll, Lp, Lb⟩
    rw [rangeA_len, Int.toNat_natCast] at Ll Lb
    refine fz_del l6 ?_
    decreasing_tactic
    exact retEnd (k L _ (d6.del rp rq) (b1.trans b6) Lp Lb)
  rw [decide_eq_false (show ¬ ((wa : Nat) : Int) = 0 by omega)]
  decreasing_tactic
  rw [HC.dec_int]
  by_cases c1 : wa = 1
  · subst c1
    rw [decide_eq_true (show ((1 : Nat) : Int) = 1 from rfl)]
    decreasing_tactic
    (refine ⟨_, _, _, rfl, by assumption, (by infer_instance), (by infer_instance), fun mo Mmo dmo bmo lmo => ?_⟩; decreasing_tactic)
    have rg : ∀ n : Nat, fi + n ≤ s.kept → Q (.rol (rangeA (fi : Int) n)) Mmo := fun n hn => by
      have e : rangeA (fi : Int) n = dnsV ((List.range n).map fun i => fi + i) := by
        unfold rangeA dnsV
        rw [List.map_map]
        rfl
      rw [e]
      refine k _ _ dmo (b1.trans bmo) ?_ fun b hb => ?_
      · rw [List.pairwise_map]
        exact List.pairwise_lt_range.imp fun h => by omega
      · obtain ⟨i, hi, rfl⟩ := List.mem_map.mp hb
        have := List.mem_range.mp hi
        omega
    by_cases cm : (fi : Int) + (mo : Int) < ((s.kept : Nat) : Int)
    · rw [if_pos cm]
      exact retEnd (rg _ (by omega))
    · rw [if_neg cm]
      exact retEnd (rg _ (by omega))
  rw [decide_eq_false (show ¬ ((wa : Nat) : Int) = 1 by omega)]
  decreasing_tactic
  rw [HC.dec_int]
  by_cases c2 : wa = 2
  · subst c2
    rw [decide_eq_true (show ((2 : Nat) : Int) = 2 from rfl)]
    decreasing_tactic
    (refine ⟨_, _, _, rfl, by assumption, (by infer_instance), (by infer_instance), fun mo Mmo dmo bmo lmo => ?_⟩; decreasing_tactic)
    intro r hr
    have rp := dmo.nep hr
    have rq := dmo.neq hr
    refine lcW_inv (fun i M' => ∃ L : List Nat, DPot p q M' ∧ But p q Mmo (mdel M' r) ∧ M' r = some (.lst (dnsV L)) ∧ L.length = i ∧ ∀ x ∈ L, x < s.kept) ⟨[], dmo.put rp rq, by rw [mdel_put]; exact (But.refl p q Mmo).del hr, mup_same, rfl, fun o ho => by cases ho⟩ (fun _ _ _ _ => trivial) ?_ ?_
    · rintro i d M' hi ⟨L, hd, hb, hl, hlen, hbd⟩
      obtain ⟨hi, rfl⟩ := rangeA_get hi
      refine ⟨_, rfl, ?_⟩
      decreasing_tactic
      (refine ⟨_, _, _, rfl, by assumption, (by infer_instance), (by infer_instance), fun x Mx dx bx lx => ?_⟩; decreasing_tactic)
      have hl2 := bx.at rp rq hl
      have ll := dns_len L
      refine ⟨_, hl2, lt_line (by omega), _, Sub.refl _, L ++ [x], dx.put rp rq, by rw [mdel_put]; exact hb.trans bx.mdel2, by rw [mup_same]; unfold dnsV; rw [List.map_append]; rfl, by simp; omega, fun z hz => ?_⟩
      rcases List.mem_append.mp hz with h3 | h3
      · exact hbd z h3
      · rw [List.mem_singleton.mp h3]; omega
    rintro M6 ⟨L, d6, b6, l6, Ll, Lb⟩
    rw [rangeA_len, Int.toNat_natCast] at Ll
    refine fz_del l6 ?_
    decreasing_tactic
    refine ⟨L.map fun n : Nat => (n : Int), by rw [dns_ints]; rfl, by rw [List.length_map]; omega, fun ms r2 hp hm hr2 => ?_⟩
    have hnn : ∀ x ∈ ms, ∃ n : Nat, n ∈ L ∧ x = (n : Int) := fun x hx => by
      obtain ⟨n, hn, e⟩ := List.mem_map.mp ((hm x).mp hx)
      exact ⟨n, hn, e.symm⟩
    have e1 : ms = (ms.map Int.toNat).map fun n : Nat => (n : Int) := by
      rw [List.map_map]
      refine (List.map_id' ms).symm.trans (List.map_congr_left fun x hx => ?_)
      obtain ⟨n, _, rfl⟩ := hnn x hx
      rfl
    rw [e1, ← dns_ints]
    refine fz_new hr2 ?_
    decreasing_tactic
    refine retEnd (k _ _ (d6.del rp rq) ((b1.trans bmo).trans b6) ?_ fun b hb => ?_)
    · rw [List.pairwise_map]
      refine List.Pairwise.imp_of_mem (fun {x y} hx hy h => ?_) hp
      obtain ⟨n, _, rfl⟩ := hnn x hx
      obtain ⟨m, _, rfl⟩ := hnn y hy
      exact Int.ofNat_lt.mp h
    · obtain ⟨x, hx, rfl⟩ := List.mem_map.mp hb
      obtain ⟨n, hn, rfl⟩ := hnn x hx
      exact Lb n hn
  rw [decide_eq_false (show ¬ ((wa : Nat) : Int) = 2 by omega)]
  decreasing_tactic
  have e : rangeA 0 ((s.kept : Nat) : Int).toNat = dnsV (List.range s.kept) := by
    unfold rangeA dnsV
    rw [Int.toNat_natCast]
    exact List.map_congr_left fun i _ => by rw [Int.zero_add]
  rw [e]
  exact retEnd (k _ _ dfi b1 List.pairwise_lt_range fun b hb => List.mem_range.mp hb)
theorem ok_law_blocks (T : Tx K mg) : FnA P w K mg base 2 T.f_law_blocks T.d_law_blocks [("_law_pot" : Str), ("_law_store_here" : Str)] sp_law_blocks :=
  fnA T.F_law_blocks sc_law_blocks len_law_blocks (fun cdv A outer s H E hr => by
    have hu1 := hu_of hr
    have hu64 := hr.units
    exact (ass_cons (as_set 2 sc_law_blocks.nd (ae_mul (ae_ix hu1 (ae_ix hu1 (av 1) ae_int) ae_int) (ae_sub (ae_ix hu1 (ae_ix hu1 (av 1) ae_int) ae_int) (ae_ix hu1 (ae_ix hu1 (av 1) ae_int) ae_int))))
    (ass_cons (as_set 3 sc_law_blocks.nd (ae_call (ok_law_next T) (hr.mono (by decide)) T.m_law_next T.F_law_next.kp T.b_law_next (aa_cons (av 0) (aa_cons ae_int aa_nil))))
    (ass_cons (as_set 4 sc_law_blocks.nd (ae_call (ok_law_next T) (hr.mono (by decide)) T.m_law_next T.F_law_next.kp T.b_law_next (aa_cons (av 0) (aa_cons (av 2) aa_nil))))
    (ass_cons (as_if (at_eq hu64 (av 3) ae_int) (ass_one (as_ret (ae_fz (ae_lc (own := [(("_law_number" : Str), 5)]) (tg := (.nm 5)) (by decide) rfl sc_law_blocks.nd (ai_range1 T.n_range (aa_cons (av 2) aa_nil)) (blkOk_by (own := [(("_law_number" : Str), 5)]) (N := N_law_blocks) (sc := defScope s_law_blocks) (by decide +kernel)) (fun _ _ _ _ _ => (pgt_name 5 sc_law_blocks.nd)) (fun _ _ _ _ _ => (ats_one (at_eq hu64 (ae_call (ok_law_next T) (hr.mono (by decide)) T.m_law_next T.F_law_next.kp T.b_law_next (aa_cons (av 0) (aa_cons ae_int aa_nil))) ae_int))) (fun _ _ _ _ _ => (av 5)))))) ass_nil)
    (ass_cons (as_if (at_eq hu64 (av 3) ae_int) (ass_one (as_ret (ae_fz (ae_listR2 rfl T.n_list T.n_range (av 4) (ae_callB (call_min2 rfl) abc_min2 (aa_cons (av 2) (aa_cons (ae_add (av 4) (ae_call (ok_law_next T) (hr.mono (by decide)) T.m_law_next T.F_law_next.kp T.b_law_next (aa_cons (av 0) (aa_cons ae_int aa_nil)))) aa_nil)) T.n_min boot_min))))) ass_nil)
    (ass_cons (as_if (at_eq hu64 (av 3) ae_int) (ass_one (as_ret (ae_fz (ae_sortSet rfl T.n_sorted T.n_set (ae_fz (ae_lc (own := [(("_law_k" : Str), 6)]) (tg := (.nm 6)) (by decide) rfl sc_law_blocks.nd (ai_range1 T.n_range (aa_cons (ae_call (ok_law_next T) (hr.mono (by decide)) T.m_law_next T.F_law_next.kp T.b_law_next (aa_cons (av 0) (aa_cons ae_int aa_nil))) aa_nil)) (blkOk_by (own := [(("_law_k" : Str), 6)]) (N := N_law_blocks) (sc := defScope s_law_blocks) (by decide +kernel)) (fun _ _ _ _ _ => (pgt_name 6 sc_law_blocks.nd)) (fun _ _ _ _ _ => ats_nil) (fun _ _ _ _ _ => (ae_call (ok_law_next T) (hr.mono (by decide)) T.m_law_next T.F_law_next.kp T.b_law_next (aa_cons (av 0) (aa_cons (av 2) aa_nil)))))))))) ass_nil)
    (ass_one (as_ret (ae_fz (ae_listR1 rfl T.n_list T.n_range (av 2)))))))))))) spec_law_blocks
def sp_law_width : ASp := fun ds M Q => ∃ s : Store, ∃ row : Nat, ds = [s.d, dn row] ∧ Q (dn (s.wide row)) M
def t_law_width : RS := (aRet (aOp aAdd (aOp aIx (aOp aIx (aVar 0) (aC (.int 0))) (aC (.int 3))) (aFn acInt (aCons (aOp aLt (aVar 1) (aOp aIx (aOp aIx (aVar 0) (aC (.int 0))) (aC (.int 4)))) aNil))))
theorem len_law_width : ∀ ds M Q, sp_law_width ds M Q → ds.length = 2 := by
  rintro ds M Q ⟨s, row, rfl, _⟩
  rfl
theorem spec_law_width : ∀ ds M Q, sp_law_width ds M Q → t_law_width (retD Q) (startA 2 ds) M := by
  rintro ds M Q ⟨s, row, rfl, k⟩
  unfold Store.wide at k
  by_cases h : row < s.head.moved
  · rw [if_pos h] at k
    decreasing_tactic
    rw [decide_eq_true (show (row : Int) < (s.head.moved : Int) by omega)]
    exact retEnd k
  · rw [if_neg h] at k
    decreasing_tactic
    rw [decide_eq_false (show ¬ (row : Int) < (s.head.moved : Int) by omega)]
    exact retEnd k
theorem ok_law_width (T : Tx K mg) : FnA P w K mg base 1 T.f_law_width T.d_law_width [("_law_store_here" : Str), ("_law_row" : Str)] sp_law_width :=
  fnA T.F_law_width sc_law_width len_law_width (fun cdv A outer s H E hr => by
    have hu1 := hu_of hr
    have hu64 := hr.units
    exact (ass_one (as_ret (ae_add (ae_ix hu1 (ae_ix hu1 (av 0) ae_int) ae_int) (ae_callTy call_int1 abc_int (aa_cons (ae_lt (av 1) (ae_ix hu1 (ae_ix hu1 (av 0) ae_int) ae_int)) aa_nil) T.n_int boot_int))))) spec_law_width
def sp_law_readable : ASp := fun ds M Q => ∃ s : Store, ∃ row : Nat, ds = [s.d, dn row] ∧ s.Ok ∧ row < s.head.rows ∧ Q (.rol (dnsV (readD s row))) M
def tk_law_readable_1 : RS := (aRet (aFz (aLc (aiEnum (aCons (aVar 2) aNil)) (.tp [(.nm 3), (.nm 4)]) [3, 4] (aAnd (aB (aOp aIsNot (aVar 4) (aC .non))) (aB (aOp aIsNot (aOp aIx (aVar 4) (aVar 1)) (aC .non)))) (aVar 3))))
def t_law_readable : RS := aSeq (aAsg (aFz (aSl (aOp aIx (aVar 0) (aC (.int 1))) aoN (aoS (aCall sp_law_width (aCons (aVar 0) (aCons (aVar 1) aNil)))))) (agName 2)) (tk_law_readable_1)
theorem len_law_readable : ∀ ds M Q, sp_law_readable ds M Q → ds.length = 2 := by
  rintro ds M Q ⟨s, row, rfl, _⟩
  rfl
theorem spec_law_readable : ∀ ds M Q, sp_law_readable ds M Q → t_law_readable (retD Q) (startA 5 ds) M := by
  rintro ds M Q ⟨s, row, rfl, ok, hr, k⟩
  have wl := ok.wide_le row
  have wt := ok.wide_ten row
  decreasing_tactic
  refine ⟨s, row, rfl, ?_⟩
  have ec := c_to (s.disks.map kD) (s.wide row) (by rw [List.length_map]; exact wl)
  decreasing_tactic
  rw [ec]
  have tl : ((s.disks.map kD).take (s.wide row)).length = s.wide row := by rw [List.length_take, List.length_map]; omega
  refine lcF_opt (fun i => if (s.cell i row).isSome = true then some (dn i) else none) (fun _ => rfl) (by rw [enumD_len, tl]; exact le_line (by omega)) (fun i d hd M' N hs q => ?_) ?_
  · obtain ⟨f, hf, rfl⟩ := enumD_get' hd
    have hi := (List.getElem?_eq_some_iff.mp hf).1
    rw [tl] at hi
    rw [List.getElem?_take_of_lt hi, List.getElem?_map] at hf
    obtain ⟨kk, hk, rfl⟩ := Option.map_eq_some_iff.mp hf
    have gk : s.disks.getD i none = kk := by rw [List.getD_eq_getElem?_getD, hk]; rfl
    refine ⟨_, rfl, ?_⟩
    cases kk with
    | none =>
      have ecl : s.cell i row = none := by unfold Store.cell; rw [gk]
      rw [ecl] at q
      decreasing_tactic
      exact q
    | some bs =>
      have bl : bs.length = s.head.rows := (ok.disks _ (List.mem_of_getElem? hk) bs rfl).1
      have ecl : s.cell i row = bs.getD row none := by unfold Store.cell; rw [gk]
      have ea : atI (bs.map oD) (row : Int) = some (oD (bs.getD row none)) := HC.atI_nat (by
        rw [List.getElem?_map, List.getD_eq_getElem?_getD, List.getElem?_eq_getElem (show row < bs.length by omega)]
        rfl)
      rw [ecl] at q
      decreasing_tactic
      ((repeat ((conv => whnf); simp only [lenA_r, itemsA_r, lstA_r, lstC_s, Option.map_some, atI_0, ixN_0, mup_same, mup_mup, true_and, and_true, List.map_cons, List.map_nil, List.length_cons, List.length_map, List.length_nil, List.set_cons_zero, List.set_cons_succ, List.cons_append, List.nil_append, List.getElem?_cons_zero, List.getElem?_cons_succ, ea])); (conv => whnf))
      cases hc : bs.getD row none with
      | none =>
        rw [hc] at q
        decreasing_tactic
        exact q
      | some b =>
        rw [hc] at q
        decreasing_tactic
        exact q
  · have ef : (List.range (enumD ((s.disks.map kD).take (s.wide row))).length).filterMap (fun i => if (s.cell i row).isSome = true then some (dn i) else none) = dnsV (readD s row) := by
      rw [enumD_len, tl]
      exact fm_pick (fun i => (s.cell i row).isSome) (fun i => dn i) _
    rw [ef]
    exact retEnd k
theorem ok_law_readable (T : Tx K mg) : FnA P w K mg base 2 T.f_law_readable T.d_law_readable [("_law_store_here" : Str), ("_law_row" : Str)] sp_law_readable :=
  fnA T.F_law_readable sc_law_readable len_law_readable (fun cdv A outer s H E hr => by
    have hu1 := hu_of hr
    have hu64 := hr.units
    exact (ass_cons (as_set 2 sc_law_readable.nd (ae_fz (ae_slice (ae_ix hu1 (av 0) ae_int) ao_none (ao_some (ae_call (ok_law_width T) (hr.mono (by decide)) T.m_law_width T.F_law_width.kp T.b_law_width (aa_cons (av 0) (aa_cons (av 1) aa_nil)))))))
    (ass_one (as_ret (ae_fz (ae_lc (own := [(("_law_disk" : Str), 3), (("_law_blocks_here" : Str), 4)]) (tg := (.tp [(.nm 3), (.nm 4)])) (by decide) rfl sc_law_readable.nd (ai_enum T.n_enumerate (aa_cons (av 2) aa_nil)) (blkOk_by (own := [(("_law_disk" : Str), 3), (("_law_blocks_here" : Str), 4)]) (N := N_law_readable) (sc := defScope s_law_readable) (by decide +kernel)) (fun _ _ _ _ _ => (pgt_tup rfl (pgts_cons (pgt_name 3 sc_law_readable.nd) (pgts_cons (pgt_name 4 sc_law_readable.nd) pgts_nil)))) (fun _ _ _ _ _ => (ats_one (AW.pt (aw_and (at_isnot (av 4) ae_non) (aw_and1 (at_isnot (ae_ix hu1 (av 4) (av 1)) ae_non)))))) (fun _ _ _ _ _ => (av 3)))))))) spec_law_readable
def sp_law_any : ASp := fun ds M Q => ∃ s : Store, ∃ row : Nat, ds = [s.d, dn row] ∧ s.Ok ∧ row < s.head.rows ∧ Q (anyV s row) M
def tk_law_any_3 : RS := (aRet (aTup (aCons (aVar 1) (aCons (aVar 3) (aCons (aVar 2) aNil)))))
def tk_law_any_2 : RS := aSeq (aIfS (aB (aOp aLt (aFn acLen (aCons (aVar 3) aNil)) (aVar 2))) (aRet (aTup (aCons (aVar 1) (aCons (aC .non) (aCons (aVar 2) aNil))))) aNext) (tk_law_any_3)
def tk_law_any_1 : RS := aSeq (aAsg (aCall sp_law_readable (aCons (aVar 0) (aCons (aVar 1) aNil))) (agName 3)) (tk_law_any_2)
def t_law_any : RS := aSeq (aAsg (aOp aSub (aCall sp_law_width (aCons (aVar 0) (aCons (aVar 1) aNil))) (aOp aIx (aOp aIx (aVar 0) (aC (.int 0))) (aC (.int 0)))) (agName 2)) (tk_law_any_1)
theorem len_law_any : ∀ ds M Q, sp_law_any ds M Q → ds.length = 2 := by
  rintro ds M Q ⟨s, row, rfl, _⟩
  rfl
theorem spec_law_any : ∀ ds M Q, sp_law_any ds M Q → t_law_any (retD Q) (startA 4 ds) M := by
  rintro ds M Q ⟨s, row, rfl, ok, hr, k⟩
  have wp := ok.wide_pos row
  have e : ((s.wide row : Nat) : Int) - ((s.head.par : Nat) : Int) = ((s.wide row - s.head.par : Nat) : Int) := by omega
  have dl := dns_len (readD s row)
  unfold anyV at k
  decreasing_tactic
  refine ⟨s, row, rfl, ?_⟩
  decreasing_tactic
  refine ⟨s, row, rfl, ok, hr, ?_⟩
  (dsimp only)
  rw [e]
  by_cases c : (readD s row).length < s.wide row - s.head.par
  · rw [if_pos c] at k
    decreasing_tactic
    exact retEnd k
  · rw [if_neg c] at k
    decreasing_tactic
    exact retEnd k
theorem ok_law_any (T : Tx K mg) : FnA P w K mg base 3 T.f_law_any T.d_law_any [("_law_store_here" : Str), ("_law_row" : Str)] sp_law_any :=
  fnA T.F_law_any sc_law_any len_law_any (fun cdv A outer s H E hr => by
    have hu1 := hu_of hr
    have hu64 := hr.units
    exact (ass_cons (as_set 2 sc_law_any.nd (ae_sub (ae_call (ok_law_width T) (hr.mono (by decide)) T.m_law_width T.F_law_width.kp T.b_law_width (aa_cons (av 0) (aa_cons (av 1) aa_nil))) (ae_ix hu1 (ae_ix hu1 (av 0) ae_int) ae_int)))
    (ass_cons (as_set 3 sc_law_any.nd (ae_call (ok_law_readable T) (hr.mono (by decide)) T.m_law_readable T.F_law_readable.kp T.b_law_readable (aa_cons (av 0) (aa_cons (av 1) aa_nil))))
    (ass_cons (as_if (at_lt (ae_callB call_len abc_len (aa_cons (av 3) aa_nil) T.n_len boot_len) (av 2)) (ass_one (as_ret (ae_tup (aa_cons (av 1) (aa_cons ae_non (aa_cons (av 2) aa_nil)))))) ass_nil)
    (ass_one (as_ret (ae_tup (aa_cons (av 1) (aa_cons (av 3) (aa_cons (av 2) aa_nil)))))))))) spec_law_any
def sp_law_spot : ASp := fun ds M Q => ∃ s : Store, ∃ n : Nat, ds = [s.d, dn n] ∧ s.Ok ∧ Q (spD ((s.spotN n).1, ((s.spotN n).1 + (s.spotN n).2) % s.wide (s.spotN n).1)) M
def tk_law_spot_3 : RS := (aRet (aTup (aCons (aVar 3) (aCons (aOp aMod (aOp aAdd (aVar 3) (aVar 4)) (aCall sp_law_width (aCons (aVar 0) (aCons (aVar 3) aNil)))) aNil))))
def tk_law_spot_2 : RS := aSeq (aPar 3 4 (aCons (aOp aDiv (aVar 1) (aVar 2)) (aCons (aOp aMod (aVar 1) (aVar 2)) aNil))) (tk_law_spot_3)
def tk_law_spot_1 : RS := aSeq (aIfS (aB (aOp aLt (aVar 1) (aOp aMul (aOp aIx (aOp aIx (aVar 0) (aC (.int 0))) (aC (.int 4))) (aOp aAdd (aVar 2) (aC (.int 1)))))) (aAsg (aOp aAdd (aVar 2) (aC (.int 1))) (agName 2)) aNext) (tk_law_spot_2)
def t_law_spot : RS := aSeq (aAsg (aOp aSub (aOp aIx (aOp aIx (aVar 0) (aC (.int 0))) (aC (.int 3))) (aOp aIx (aOp aIx (aVar 0) (aC (.int 0))) (aC (.int 0)))) (agName 2)) (tk_law_spot_1)
theorem len_law_spot : ∀ ds M Q, sp_law_spot ds M Q → ds.length = 2 := by
  rintro ds M Q ⟨s, n, rfl, _⟩
  rfl
theorem spec_law_spot : ∀ ds M Q, sp_law_spot ds M Q → t_law_spot (retD Q) (startA 5 ds) M := by
  rintro ds M Q ⟨s, n, rfl, ok, k⟩
  have w1 := ok.head.width1
  have w2 := ok.head.width2
  have p1 := ok.head.par1
  have r2 := ok.head.rows2
  have hm : s.head.moved ≤ 24 := by rcases ok.head.many with m | m <;> omega
  obtain ⟨B, hB⟩ : ∃ B, B = s.head.width - s.head.par := ⟨_, rfl⟩
  have bp : 0 < B := by omega
  have e1 : ((s.head.width : Nat) : Int) - ((s.head.par : Nat) : Int) = (B : Int) := by omega
  have eB : s.head.width + 1 - s.head.par = B + 1 := by omega
  have e2 : (B : Int) + 1 = ((B + 1 : Nat) : Int) := rfl
  have e7 : ((s.head.moved : Nat) : Int) * ((B + 1 : Nat) : Int) = ((s.head.moved * (B + 1) : Nat) : Int) := (Int.natCast_mul _ _).symm
  have hlt : n / (B + 1) < s.head.moved ↔ n < s.head.moved * (B + 1) := Nat.div_lt_iff_lt_mul (Nat.succ_pos _)
  have fact : ∀ c : Nat, (n : Int) / (c : Int) = ((n / c : Nat) : Int) ∧ (n : Int) % (c : Int) = ((n % c : Nat) : Int) ∧ ((n / c : Nat) : Int) + ((n % c : Nat) : Int) = ((n / c + n % c : Nat) : Int) ∧ ((n / c + n % c : Nat) : Int) % ((s.wide (n / c) : Nat) : Int) = (((n / c + n % c) % s.wide (n / c) : Nat) : Int) := fun c => ⟨(Int.natCast_ediv _ _).symm, (Int.natCast_emod _ _).symm, rfl, (Int.natCast_emod _ _).symm⟩
  decreasing_tactic
  rw [e1, e2, e7]
  by_cases q : n / (B + 1) < s.head.moved
  · have e : s.spotN n = lay (B + 1) n := by unfold Store.spotN; rw [eB, if_pos q]
    refine onIf_decT (show ((n : Nat) : Int) < _ from Int.ofNat_lt.mpr (hlt.mp q)) ?_
    obtain ⟨f1, f2, f3, f4⟩ := fact (B + 1)
    have wp := ok.wide_pos (n / (B + 1))
    have wt := ok.wide_ten (n / (B + 1))
    rw [e] at k
    decreasing_tactic
    rw [show ((s.head.width : Nat) : Int) - ((s.head.par : Nat) : Int) + 1 = ((B + 1 : Nat) : Int) by omega]
    dsimp only
    rw [f1]
    refine ⟨s, _, rfl, ?_⟩
    decreasing_tactic
    dsimp only
    try rw [f1]
    rw [f2, f3, f4]
    exact retEnd k
  · have e : s.spotN n = lay B n := by unfold Store.spotN; rw [eB, if_neg q, ← hB]
    refine onIf_decF (show ¬ ((n : Nat) : Int) < _ from fun z => q (hlt.mpr (Int.ofNat_lt.mp z))) ?_
    obtain ⟨f1, f2, f3, f4⟩ := fact B
    have wp := ok.wide_pos (n / B)
    have wt := ok.wide_ten (n / B)
    rw [e] at k
    decreasing_tactic
    rw [e1]
    dsimp only
    rw [f1]
    refine ⟨s, _, rfl, ?_⟩
    decreasing_tactic
    dsimp only
    try rw [f1]
    try rw [e1]
    rw [f2, f3, f4]
    exact retEnd k
theorem ok_law_spot (T : Tx K mg) : FnA P w K mg base 2 T.f_law_spot T.d_law_spot [("_law_store_here" : Str), ("_law_number" : Str)] sp_law_spot :=
  fnA T.F_law_spot sc_law_spot len_law_spot (fun cdv A outer s H E hr => by
    have hu1 := hu_of hr
    have hu64 := hr.units
    exact (ass_cons (as_set 2 sc_law_spot.nd (ae_sub (ae_ix hu1 (ae_ix hu1 (av 0) ae_int) ae_int) (ae_ix hu1 (ae_ix hu1 (av 0) ae_int) ae_int)))
    (ass_cons (as_if (at_lt (av 1) (ae_mul (ae_ix hu1 (ae_ix hu1 (av 0) ae_int) ae_int) (ae_add (av 2) ae_int))) (ass_one (as_set 2 sc_law_spot.nd (ae_add (av 2) ae_int))) ass_nil)
    (ass_cons (as_par 3 4 rfl sc_law_spot.nd (aa_cons (ae_div (av 1) (av 2)) (aa_cons (ae_mod (av 1) (av 2)) aa_nil)))
    (ass_one (as_ret (ae_tup (aa_cons (av 3) (aa_cons (ae_mod (ae_add (av 3) (av 4)) (ae_call (ok_law_width T) (hr.mono (by decide)) T.m_law_width T.F_law_width.kp T.b_law_width (aa_cons (av 0) (aa_cons (av 3) aa_nil)))) aa_nil))))))))) spec_law_spot
def sp_law_read_needs : ASp := fun ds M Q => ∃ s : Store, ∃ bs : List Nat, ∃ d, ds = [s.d, d] ∧ (d = .tup (dnsV bs) ∨ d = .rol (dnsV bs)) ∧ s.Ok ∧ bs.Pairwise (· < ·) ∧ (∀ b ∈ bs, b < s.kept) ∧ Q (.rol ((rowsW s bs).map (needW s))) M
def tk_law_read_needs_4 : RS := (aRet (aFz (aVar 6)))
def tk_law_read_needs_3 : RS := aSeq (aFor (aiSeq (aFz (aFn acSortDI (aCons (aVar 2) aNil)))) (agName 4) (aSeq (aAsg (aFz (aFn acSortI (aCons (aOp aIxD (aVar 2) (aVar 4)) aNil))) (agName 7))
    (aSeq (aAsg (aFz (aLc (aiSeq (aVar 7)) (.nm 5) [5] (aB (aOp aNotInK (aVar 5) (aCall sp_law_readable (aCons (aVar 0) (aCons (aVar 4) aNil))))) (aVar 5))) (agName 8))
    (aIfS (aAnd (aB (aOp aEq (aVar 8) (aFz (aLst aNil)))) (aB (aOp aLt (aFn acLen (aCons (aVar 7) aNil)) (aOp aSub (aCall sp_law_width (aCons (aVar 0) (aCons (aVar 4) aNil))) (aOp aIx (aOp aIx (aVar 0) (aC (.int 0))) (aC (.int 0))))))) (aDrop (aMth "list" amApp (aVar 6) (aCons (aTup (aCons (aVar 4) (aCons (aVar 7) (aCons (aFn acLen (aCons (aVar 7) aNil)) aNil)))) aNil))) (aDrop (aMth "list" amApp (aVar 6) (aCons (aCall sp_law_any (aCons (aVar 0) (aCons (aVar 4) aNil))) aNil))))))) (tk_law_read_needs_4)
def tk_law_read_needs_2 : RS := aSeq (aAsg (aLst aNil) (agName 6)) (tk_law_read_needs_3)
def tk_law_read_needs_1 : RS := aSeq (aFor (aiSeq (aVar 1)) (agName 3) (aSeq (aAsg (aCall sp_law_spot (aCons (aVar 0) (aCons (aVar 3) aNil))) (agTup 2 (agCons (agName 4) (agCons (agName 5) agNil))))
    (aDrop (aMth "list" amApp (aSetd (aVar 2) (aVar 4) (aLst aNil)) (aCons (aVar 5) aNil))))) (tk_law_read_needs_2)
def t_law_read_needs : RS := aSeq (aAsg aDnew (agName 2)) (tk_law_read_needs_1)
theorem len_law_read_needs : ∀ ds M Q, sp_law_read_needs ds M Q → ds.length = 2 := by
  rintro ds M Q ⟨s, bs, d, rfl, _⟩
  rfl
theorem spec_law_read_needs : ∀ ds M Q, sp_law_read_needs ds M Q → t_law_read_needs (retD Q) (startA 9 ds) M := by
  rintro ds M Q ⟨s, bs, d, rfl, hd, ok, hp, hk, k⟩
  have hdi : ∀ M, itemsA d M = some (dnsV bs) := fun M => by rcases hd with rfl | rfl <;> rfl
  have bl := asc_kept ok hp hk
  obtain ⟨rp, gok⟩ := grn_fin ok hp
  have er := grn_rows ok hp hk
  have glb := grn_le (s := s) bs
  have r2 := ok.head.rows2
  have rwl := rowsW_len (s := s) bs
  decreasing_tactic
  intro f hf
  decreasing_tactic
  ((repeat ((conv => whnf); simp only [lenA_r, itemsA_r, lstA_r, lstC_s, Option.map_some, atI_0, ixN_0, mup_same, mup_mup, true_and, and_true, List.map_cons, List.map_nil, List.length_cons, List.length_map, List.length_nil, List.set_cons_zero, List.set_cons_succ, List.cons_append, List.nil_append, List.getElem?_cons_zero, List.getElem?_cons_succ, hdi])); (conv => whnf))
  refine forW_inv (fun i ρ M' => ∃ as x3 x4 x5, ρ = [some s.d, some d, some (.ref f), x3, x4, x5, none, none, none] ∧ GW (fun r j => (r + j) % s.wide r) M' f (s.grn (bs.take i)) as ∧ HC.Sub M M' ∧ ∀ b ∈ as, M b = none) ⟨[], none, none, none, rfl, ⟨rfl, .nil, (fun h => by cases h), mup_same, (fun i x a e => by cases e)⟩, Sub.new hf, fun b hb => by cases hb⟩ (fun _ _ _ _ _ => True.intro) ?_ ?_
  · rintro i d0 ρ M2 hi ⟨as, x3, x4, x5, rfl, gm, hs, hfr⟩
    unfold dnsV at hi
    rw [List.getElem?_map] at hi
    obtain ⟨b, hb, rfl⟩ := Option.map_eq_some_iff.mp hi
    decreasing_tactic
    refine ⟨s, b, rfl, ok, ?_⟩
    generalize hsp : s.spotN b = rp
    obtain ⟨rr, pl⟩ := rp
    decreasing_tactic
    refine ⟨⟨_, gm.f⟩, ?_⟩
    decreasing_tactic
    intro p hp2
    obtain ⟨l1, f3, st⟩ := gm.step (i := i) ok hp hk hb hsp hs hf hfr hp2
    generalize mup M2 p (.lst []) = M3 at f3 st ⊢
    rcases st with ⟨k1, L, k2, pf, as', g1, g2, g3⟩ | ⟨c, l, k1, hc, ll, as', g1, g2, g3⟩
    · ((repeat ((conv => whnf); simp only [lenA_r, itemsA_r, lstA_r, lstC_s, Option.map_some, atI_0, ixN_0, mup_same, mup_mup, true_and, and_true, List.map_cons, List.map_nil, List.length_cons, List.length_map, List.length_nil, List.set_cons_zero, List.set_cons_succ, List.cons_append, List.nil_append, List.getElem?_cons_zero, List.getElem?_cons_succ, f3])); (conv => whnf))
      refine ⟨l1, ?_⟩
      rw [k1]
      decreasing_tactic
      rw [k2]
      decreasing_tactic
      ((repeat ((conv => whnf); simp only [lenA_r, itemsA_r, lstA_r, lstC_s, Option.map_some, atI_0, ixN_0, mup_same, mup_mup, true_and, and_true, List.map_cons, List.map_nil, List.length_cons, List.length_map, List.length_nil, List.set_cons_zero, List.set_cons_succ, List.cons_append, List.nil_append, List.getElem?_cons_zero, List.getElem?_cons_succ, pf])); (conv => whnf))
      exact wk_of ⟨as', _, _, _, rfl, g1, g2, g3⟩
    · ((repeat ((conv => whnf); simp only [lenA_r, itemsA_r, lstA_r, lstC_s, Option.map_some, atI_0, ixN_0, mup_same, mup_mup, true_and, and_true, List.map_cons, List.map_nil, List.length_cons, List.length_map, List.length_nil, List.set_cons_zero, List.set_cons_succ, List.cons_append, List.nil_append, List.getElem?_cons_zero, List.getElem?_cons_succ, f3])); (conv => whnf))
      refine ⟨l1, ?_⟩
      rw [k1]
      decreasing_tactic
      ((repeat ((conv => whnf); simp only [lenA_r, itemsA_r, lstA_r, lstC_s, Option.map_some, atI_0, ixN_0, mup_same, mup_mup, true_and, and_true, List.map_cons, List.map_nil, List.length_cons, List.length_map, List.length_nil, List.set_cons_zero, List.set_cons_succ, List.cons_append, List.nil_append, List.getElem?_cons_zero, List.getElem?_cons_succ, hc])); (conv => whnf))
      exact wk_of ⟨as', _, _, _, rfl, g1, g2, g3⟩
  · rintro ρ M2 ⟨as, x3, x4, x5, rfl, gm, hs, hfr⟩
    rw [dns_len, List.take_length] at gm
    generalize s.grn bs = g at gm gok er glb
    have gl : g.length = (rowsW s bs).length := by rw [← er, List.length_map]
    have g5 : dicA M2 (.ref f) = some (grD g as) := by simp only [dicA, gm.f]
    decreasing_tactic
    intro D hD
    have hs2 : HC.Sub M2 (mup M2 D (.lst [])) := Sub.new hD
    have hD0 : M D = none := hs.free hD
    have fD : D ≠ f := (ne_of_new gm.f hD).symm
    have g6 : dicA (mup M2 D (.lst [])) (.ref f) = some (grD g as) := by simp only [dicA, hs2 _ _ gm.f]
    decreasing_tactic
    ((repeat ((conv => whnf); simp only [lenA_r, itemsA_r, lstA_r, lstC_s, Option.map_some, atI_0, ixN_0, mup_same, mup_mup, true_and, and_true, List.map_cons, List.map_nil, List.length_cons, List.length_map, List.length_nil, List.set_cons_zero, List.set_cons_succ, List.cons_append, List.nil_append, List.getElem?_cons_zero, List.getElem?_cons_succ, g6])); (conv => whnf))
    refine ⟨g.map fun x => (x.1 : Int), grD_fst gm.len, fun ns' hp hso p hpn => fz_new hpn ?_⟩
    have e0 : g.map (fun x => (x.1 : Int)) = (g.map (·.1)).map fun n : Nat => (n : Int) := by rw [List.map_map]; rfl
    rw [e0] at hp
    have e1 := sorted_nats hp hso gok.up
    subst e1
    have e2 : ((g.map (·.1)).map fun n : Nat => (n : Int)).map Dv.int = g.map fun x => dn x.1 := by rw [List.map_map, List.map_map]; rfl
    rw [e2]
    decreasing_tactic
    have gL : (g.map fun x => dn x.1).length = g.length := List.length_map _
    have kL := gm.len
    refine forW_inv (fun i ρ M' => ∃ y3 y4 y5 y7 y8, ρ = [some s.d, some d, some (.ref f), y3, y4, y5, some (.ref D), y7, y8] ∧ M' = mup M2 D (.lst (((rowsW s bs).take i).map (needW s)))) ⟨_, _, _, _, _, rfl, rfl⟩ (fun _ _ _ _ _ => rfl) ?_ ?_
    · rintro i d0 ρ M' hi ⟨y3, y4, y5, y7, y8, rfl, rfl⟩
      rw [List.getElem?_map] at hi
      obtain ⟨x, hx, rfl⟩ := Option.map_eq_some_iff.mp hi
      have il := (List.getElem?_eq_some_iff.mp hx).1
      have hw : (rowsW s bs)[i]? = some (x.1, x.2.map (·.1)) := by rw [← er, List.getElem?_map, hx]; rfl
      obtain ⟨h1, h2, h3⟩ := rwW_mem (List.mem_of_getElem? hw)
      obtain ⟨a, ha⟩ : ∃ a, as[i]? = some a := ⟨_, List.getElem?_eq_getElem (by omega)⟩
      have am := List.mem_of_getElem? ha
      have k1 : getK (grD g as) (.inl (x.1 : Int)) = some (.ref a) := grD_get gok.up gm.len hx ha
      have hA := gm.c i x a hx ha
      have eT : tellW (fun r j => (r + j) % s.wide r) x = dnsV (rowT s x.1 (x.2.map (·.1))) := by unfold tellW dnsV rowT; rw [List.map_map, List.map_map]; rfl
      rw [eT] at hA
      have aD : a ≠ D := fun e => by rw [e, hD] at hA; cases hA
      have f6 : dicA (mup M2 D (.lst (((rowsW s bs).take i).map (needW s)))) (.ref f) = some (grD g as) := by simp only [dicA, mup_ne fD.symm, gm.f]
      have hA2 : mup M2 D (.lst (((rowsW s bs).take i).map (needW s))) a = some (.lst (dnsV (rowT s x.1 (x.2.map (·.1))))) := (mup_ne aD).trans hA
      have h2 : x.2.map (·.1) = plR s bs x.1 := h2
      have wp := ok.wide_pos x.1
      have wl := ok.wide_le x.1
      have wt := ok.wide_ten x.1
      have pl := plR_len (s := s) bs x.1
      have et : (rowsW s bs).take (i + 1) = (rowsW s bs).take i ++ [(x.1, x.2.map (·.1))] := by rw [List.take_succ, hw]; rfl
      have tl : (((rowsW s bs).take i).map (needW s)).length < sizeLine := lt_line (by rw [List.length_map, List.length_take]; omega)
      have jb := rdAll_disks s x.1 (x.2.map (·.1)) (by omega)
      have psl : (rowT s x.1 (x.2.map (·.1))).length = (x.2.map (·.1)).length := by unfold rowT; rw [List.length_map]
      rw [← h2] at pl
      generalize x.2.map (·.1) = ps at hA hA2 hw h2 pl et jb psl
      have hD3 : mup M2 D (.lst (((rowsW s bs).take i).map (needW s))) D = some (.lst (((rowsW s bs).take i).map (needW s))) := mup_same
      obtain ⟨M3, hM3⟩ : ∃ M3, M3 = mup M2 D (.lst (((rowsW s bs).take i).map (needW s))) := ⟨_, rfl⟩
      rw [← hM3] at f6 hA2 hD3 ⊢
      have fin : ∀ y3 y4 y5 y7 y8, wk (fun ρ M' => ∃ y3 y4 y5 y7 y8, ρ = [some s.d, some d, some (.ref f), y3, y4, y5, some (.ref D), y7, y8] ∧ M' = mup M2 D (.lst (((rowsW s bs).take (i + 1)).map (needW s)))) [some s.d, some d, some (.ref f), y3, y4, y5, some (.ref D), y7, y8] (mup M3 D (.lst (((rowsW s bs).take i).map (needW s) ++ [needW s (x.1, ps)]))) := fun y3 y4 y5 y7 y8 => wk_of ⟨_, _, _, _, _, rfl, by rw [hM3, mup_mup, et, List.map_append]; rfl⟩
      decreasing_tactic
      ((repeat ((conv => whnf); simp only [lenA_r, itemsA_r, lstA_r, lstC_s, Option.map_some, atI_0, ixN_0, mup_same, mup_mup, true_and, and_true, List.map_cons, List.map_nil, List.length_cons, List.length_map, List.length_nil, List.set_cons_zero, List.set_cons_succ, List.cons_append, List.nil_append, List.getElem?_cons_zero, List.getElem?_cons_succ, f6, k1])); (conv => whnf))
      refine ⟨(rowT s x.1 ps).map fun n : Nat => (n : Int), by rw [hA2, ← dns_ints]; rfl, fun ns' hp hs y hy => ?_⟩
      have e := sortN_cast hp hs
      subst e
      rw [← dns_ints]
      have sl : (sortN (rowT s x.1 ps)).length = ps.length := by rw [(sortN_perm _).length_eq, psl]
      have kr := keysD_dns (readD s x.1)
      refine fz_new hy ?_
      decreasing_tactic
      refine lcA_opt (L := sortN (rowT s x.1 ps)) (v := fun n => dn n) (fun k => decide (k ∉ readD s x.1)) (fun k => dn k) (fun _ _ => rfl) (le_line (by omega)) (fun b hb M' N hs q => ?_) ?_
      · refine ⟨_, rfl, ?_⟩
        decreasing_tactic
        refine ⟨s, x.1, rfl, ok, h1, ?_⟩
        decreasing_tactic
        ((repeat ((conv => whnf); simp only [lenA_r, itemsA_r, lstA_r, lstC_s, Option.map_some, atI_0, ixN_0, mup_same, mup_mup, true_and, and_true, List.map_cons, List.map_nil, List.length_cons, List.length_map, List.length_nil, List.set_cons_zero, List.set_cons_succ, List.cons_append, List.nil_append, List.getElem?_cons_zero, List.getElem?_cons_succ, kr])); (conv => whnf))
        rw [memK_nats]
        by_cases c : b ∈ readD s x.1
        · rw [decide_eq_true c]
          rw [decide_eq_false (fun z => z c)] at q
          decreasing_tactic
          exact q
        · rw [decide_eq_false c]
          rw [decide_eq_true c] at q
          decreasing_tactic
          exact q
      have ee : decide (((sortN (rowT s x.1 ps)).filter fun k => decide (k ∉ readD s x.1)).map (fun k => dn k) = []) = rdAll s x.1 ps := by
        rw [jb, Bool.eq_iff_iff, decide_eq_true_iff, List.map_eq_nil_iff, List.filter_eq_nil_iff, List.all_eq_true]
        constructor
        · intro h k hk
          have := h k (mem_sortN.mpr hk)
          simpa using this
        · intro h k hk
          have := h k (mem_sortN.mp hk)
          simpa using this
      have hR : ∀ z ∈ ((sortN (rowT s x.1 ps)).filter fun k => decide (k ∉ readD s x.1)).map (fun k => dn k), ∃ i : Int, z = .int i := fun z hz => by
        obtain ⟨i, _, rfl⟩ := List.mem_map.mp hz
        exact ⟨_, rfl⟩
      generalize ((sortN (rowT s x.1 ps)).filter fun k => decide (k ∉ readD s x.1)).map (fun k => dn k) = R at ee hR ⊢
      have sl2 : (dnsV (sortN (rowT s x.1 ps))).length = ps.length := by rw [dns_len, sl]
      have e0 : ((s.wide x.1 : Nat) : Int) - ((s.head.par : Nat) : Int) = ((s.wide x.1 - s.head.par : Nat) : Int) := by omega
      have nW : needW s (x.1, ps) = if justB s x.1 ps = true then .tup [dn x.1, .rol (dnsV (sortN (rowT s x.1 ps))), dn ps.length] else anyV s x.1 := rfl
      decreasing_tactic
      refine ⟨fun z hz => ?_, (fun z hz => by cases hz), ?_⟩
      · obtain ⟨i, rfl⟩ := hR z hz
        trivial
      cases c : rdAll s x.1 ps with
      | false =>
        rw [c] at ee
        rw [if_neg (by unfold justB; rw [c, Bool.false_and]; decide)] at nW
        rw [dec_F (fun z => of_decide_eq_false ee (Dv.rol.inj z))]
        decreasing_tactic
        refine ⟨s, x.1, rfl, ok, h1, ?_⟩
        decreasing_tactic
        ((repeat ((conv => whnf); simp only [lenA_r, itemsA_r, lstA_r, lstC_s, Option.map_some, atI_0, ixN_0, mup_same, mup_mup, true_and, and_true, List.map_cons, List.map_nil, List.length_cons, List.length_map, List.length_nil, List.set_cons_zero, List.set_cons_succ, List.cons_append, List.nil_append, List.getElem?_cons_zero, List.getElem?_cons_succ, hD3])); (conv => whnf))
        decreasing_tactic
        rw [← nW]
        exact fin _ _ _ _ _
      | true =>
        rw [c] at ee
        rw [dec_T (congrArg Dv.rol (of_decide_eq_true ee))]
        decreasing_tactic
        refine ⟨s, x.1, rfl, ?_⟩
        decreasing_tactic
        rw [e0]
        by_cases c2 : ps.length < s.wide x.1 - s.head.par
        · rw [if_pos (by unfold justB; rw [c, decide_eq_true c2]; rfl)] at nW
          rw [decide_eq_true (show (((dnsV (sortN (rowT s x.1 ps))).length : Nat) : Int) < _ by omega)]
          decreasing_tactic
          ((repeat ((conv => whnf); simp only [lenA_r, itemsA_r, lstA_r, lstC_s, Option.map_some, atI_0, ixN_0, mup_same, mup_mup, true_and, and_true, List.map_cons, List.map_nil, List.length_cons, List.length_map, List.length_nil, List.set_cons_zero, List.set_cons_succ, List.cons_append, List.nil_append, List.getElem?_cons_zero, List.getElem?_cons_succ, hD3])); (conv => whnf))
          decreasing_tactic
          rw [sl2, ← nW]
          exact fin _ _ _ _ _
        · rw [if_neg (by unfold justB; rw [c, decide_eq_false c2]; decide)] at nW
          rw [decide_eq_false (show ¬ (((dnsV (sortN (rowT s x.1 ps))).length : Nat) : Int) < _ by omega)]
          decreasing_tactic
          refine ⟨s, x.1, rfl, ok, h1, ?_⟩
          decreasing_tactic
          ((repeat ((conv => whnf); simp only [lenA_r, itemsA_r, lstA_r, lstC_s, Option.map_some, atI_0, ixN_0, mup_same, mup_mup, true_and, and_true, List.map_cons, List.map_nil, List.length_cons, List.length_map, List.length_nil, List.set_cons_zero, List.set_cons_succ, List.cons_append, List.nil_append, List.getElem?_cons_zero, List.getElem?_cons_succ, hD3])); (conv => whnf))
          decreasing_tactic
          rw [← nW]
          exact fin _ _ _ _ _
    · rintro ρ M' ⟨y3, y4, y5, y7, y8, rfl, rfl⟩
      rw [gL, gl, List.take_length]
      decreasing_tactic
      refine ⟨M2, hD, Sub.new hD, ?_⟩
      exact retSub hs k
theorem ok_law_read_needs (T : Tx K mg) : FnA P w K mg base 4 T.f_law_read_needs T.d_law_read_needs [("_law_store_here" : Str), ("_law_blocks_here" : Str)] sp_law_read_needs :=
  fnA T.F_law_read_needs sc_law_read_needs len_law_read_needs (fun cdv A outer s H E hr => by
    have hu1 := hu_of hr
    have hu64 := hr.units
    exact (ass_cons (as_set 2 sc_law_read_needs.nd ae_dnew)
    (ass_cons (as_for PassesOwn.never rfl (ai_seq (av 1)) (ag_name 3 sc_law_read_needs.nd) (ass_cons (as_asg (ae_call (ok_law_spot T) (hr.mono (by decide)) T.m_law_spot T.F_law_spot.kp T.b_law_spot (aa_cons (av 0) (aa_cons (av 3) aa_nil))) (ag_tup rfl (ags_cons (ag_name 4 sc_law_read_needs.nd) (ags_cons (ag_name 5 sc_law_read_needs.nd) ags_nil))))
    (ass_one (as_expr (ae_append (ae_setd (av 2) (av 4) (ae_lst aa_nil) ⟨rfl, rfl, rfl, rfl⟩) (aa_cons (av 5) aa_nil))))))
    (ass_cons (as_set 6 sc_law_read_needs.nd (ae_lst aa_nil))
    (ass_cons (as_for PassesOwn.never rfl (ai_seq (ae_fz (ae_callB (cr_sortedDI rfl) abc_sortDI (aa_cons (av 2) aa_nil) T.n_sorted boot_sorted))) (ag_name 4 sc_law_read_needs.nd) (ass_cons (as_set 7 sc_law_read_needs.nd (ae_fz (ae_callB cr_sortedI abc_sortI (aa_cons (ae_ixD hu1 (av 2) (av 4)) aa_nil) T.n_sorted boot_sorted)))
    (ass_cons (as_fzset rfl (as_setLc 8 (own := [(("_law_disk" : Str), 5)]) (tg := (.nm 5)) (by decide) rfl sc_law_read_needs.nd rfl rfl (sw_true rfl rfl rfl (by decide +kernel)) (ai_seq (av 7)) (blkOk_by (own := [(("_law_disk" : Str), 5)]) (N := N_law_read_needs) (sc := defScope s_law_read_needs) (by decide +kernel)) (fun _ _ _ _ _ => (pgt_name 5 sc_law_read_needs.nd)) (fun _ _ _ _ _ => (ats_one (at_notinK hu1 (av 5) (ae_call (ok_law_readable T) (hr.mono (by decide)) T.m_law_readable T.F_law_readable.kp T.b_law_readable (aa_cons (av 0) (aa_cons (av 4) aa_nil)))))) (fun _ _ _ _ _ => (av 5))))
    (ass_one (as_if (AW.pt (aw_and (at_eq hu64 (av 8) (ae_fz (ae_lst aa_nil))) (aw_and1 (at_lt (ae_callB call_len abc_len (aa_cons (av 7) aa_nil) T.n_len boot_len) (ae_sub (ae_call (ok_law_width T) (hr.mono (by decide)) T.m_law_width T.F_law_width.kp T.b_law_width (aa_cons (av 0) (aa_cons (av 4) aa_nil))) (ae_ix hu1 (ae_ix hu1 (av 0) ae_int) ae_int)))))) (ass_one (as_expr (ae_append (av 6) (aa_cons (ae_tup (aa_cons (av 4) (aa_cons (av 7) (aa_cons (ae_callB call_len abc_len (aa_cons (av 7) aa_nil) T.n_len boot_len) aa_nil)))) aa_nil)))) (ass_one (as_expr (ae_append (av 6) (aa_cons (ae_call (ok_law_any T) (hr.mono (by decide)) T.m_law_any T.F_law_any.kp T.b_law_any (aa_cons (av 0) (aa_cons (av 4) aa_nil))) aa_nil)))))))))
    (ass_one (as_ret (ae_fz (av 6))))))))) spec_law_read_needs
def sp_law_fit : ASp := fun ds M Q => ∃ s : Store, ∃ bs : List Nat, ds = [s.d, .rol (dnsV bs)] ∧ s.Ok ∧ bs.Pairwise (· < ·) ∧ (∀ b ∈ bs, b < s.kept) ∧ Q (.tup (dnsV (fitB s bs))) M
def tk_law_fit_1 : RS := (aRet (aFn acTup (aCons (aFz (aLc (aiSeq (aVar 1)) (.nm 4) [4] (aB (aOp aNotInK (aOp aIx (aCall sp_law_spot (aCons (aVar 0) (aCons (aVar 4) aNil))) (aC (.int 0))) (aVar 2))) (aVar 4))) aNil)))
def t_law_fit : RS := aSeq (aAsg (aFz (aLc (aiSeq (aCall sp_law_read_needs (aCons (aVar 0) (aCons (aVar 1) aNil)))) (.nm 3) [3] (aB (aOp aIs (aOp aIx (aVar 3) (aC (.int 1))) (aC .non))) (aOp aIx (aVar 3) (aC (.int 0))))) (agName 2)) (tk_law_fit_1)
theorem len_law_fit : ∀ ds M Q, sp_law_fit ds M Q → ds.length = 2 := by
  rintro ds M Q ⟨s, bs, rfl, _⟩
  rfl
theorem spec_law_fit : ∀ ds M Q, sp_law_fit ds M Q → t_law_fit (retD Q) (startA 5 ds) M := by
  rintro ds M Q ⟨s, bs, rfl, ok, hp, hk, k⟩
  have bl := asc_kept ok hp hk
  have r2 := ok.head.rows2
  have rwl := rowsW_len (s := s) bs
  have rml : ((rowsW s bs).map (needW s)).length = (rowsW s bs).length := List.length_map _
  decreasing_tactic
  refine ⟨s, bs, _, rfl, .inr rfl, ok, hp, hk, ?_⟩
  decreasing_tactic
  refine lcA_opt (fun x => opnB s x.1 x.2) (fun x => dn x.1) (fun _ _ => rfl) (le_line (by omega)) (fun x hx M' N hs q => ?_) ?_
  · refine ⟨_, rfl, ?_⟩
    cases c : opnB s x.1 x.2 with
    | true =>
      rw [c] at q
      have e := needW_open c
      decreasing_tactic
      ((repeat ((conv => whnf); simp only [lenA_r, itemsA_r, lstA_r, lstC_s, Option.map_some, atI_0, ixN_0, mup_same, mup_mup, true_and, and_true, List.map_cons, List.map_nil, List.length_cons, List.length_map, List.length_nil, List.set_cons_zero, List.set_cons_succ, List.cons_append, List.nil_append, List.getElem?_cons_zero, List.getElem?_cons_succ, e])); (conv => whnf))
      decreasing_tactic
      exact q
    | false =>
      rw [c] at q
      obtain ⟨L, m, e⟩ := needW_fit c
      decreasing_tactic
      ((repeat ((conv => whnf); simp only [lenA_r, itemsA_r, lstA_r, lstC_s, Option.map_some, atI_0, ixN_0, mup_same, mup_mup, true_and, and_true, List.map_cons, List.map_nil, List.length_cons, List.length_map, List.length_nil, List.set_cons_zero, List.set_cons_succ, List.cons_append, List.nil_append, List.getElem?_cons_zero, List.getElem?_cons_succ, e])); (conv => whnf))
      decreasing_tactic
      exact q
  have eo : ((rowsW s bs).filter fun x => opnB s x.1 x.2).map (fun x => dn x.1) = dnsV (((rowsW s bs).filter fun x => opnB s x.1 x.2).map (·.1)) := by unfold dnsV; rw [List.map_map]; rfl
  rw [eo]
  have k : Q (.tup (dnsV (bs.filter fun b => decide ((s.spotN b).1 ∉ ((rowsW s bs).filter fun x => opnB s x.1 x.2).map (·.1))))) M := by rw [← fitB_eq]; exact k
  generalize ((rowsW s bs).filter fun x => opnB s x.1 x.2).map (·.1) = O at k ⊢
  have k1 := keysD_dns O
  decreasing_tactic
  refine lcA_opt (L := bs) (v := fun n => dn n) (fun b => decide ((s.spotN b).1 ∉ O)) (fun b => dn b) (fun _ _ => rfl) (le_line (by omega)) (fun b hb M' N hs q => ?_) ?_
  · refine ⟨_, rfl, ?_⟩
    decreasing_tactic
    refine ⟨s, b, rfl, ok, ?_⟩
    decreasing_tactic
    ((repeat ((conv => whnf); simp only [lenA_r, itemsA_r, lstA_r, lstC_s, Option.map_some, atI_0, ixN_0, mup_same, mup_mup, true_and, and_true, List.map_cons, List.map_nil, List.length_cons, List.length_map, List.length_nil, List.set_cons_zero, List.set_cons_succ, List.cons_append, List.nil_append, List.getElem?_cons_zero, List.getElem?_cons_succ, k1])); (conv => whnf))
    rw [memK_nats]
    by_cases c : (s.spotN b).1 ∈ O
    · rw [decide_eq_true c]
      rw [decide_eq_false (fun z => z c)] at q
      decreasing_tactic
      exact q
    · rw [decide_eq_false c]
      rw [decide_eq_true c] at q
      decreasing_tactic
      exact q
  decreasing_tactic
  exact retEnd k
theorem ok_law_fit (T : Tx K mg) : FnA P w K mg base 5 T.f_law_fit T.d_law_fit [("_law_store_here" : Str), ("_law_blocks_here" : Str)] sp_law_fit :=
  fnA T.F_law_fit sc_law_fit len_law_fit (fun cdv A outer s H E hr => by
    have hu1 := hu_of hr
    have hu64 := hr.units
    exact (ass_cons (as_set 2 sc_law_fit.nd (ae_fz (ae_lc (own := [(("_law_need" : Str), 3)]) (tg := (.nm 3)) (by decide) rfl sc_law_fit.nd (ai_seq (ae_call (ok_law_read_needs T) (hr.mono (by decide)) T.m_law_read_needs T.F_law_read_needs.kp T.b_law_read_needs (aa_cons (av 0) (aa_cons (av 1) aa_nil)))) (blkOk_by (own := [(("_law_need" : Str), 3)]) (N := N_law_fit) (sc := defScope s_law_fit) (by decide +kernel)) (fun _ _ _ _ _ => (pgt_name 3 sc_law_fit.nd)) (fun _ _ _ _ _ => (ats_one (at_is (ae_ix hu1 (av 3) ae_int) ae_non))) (fun _ _ _ _ _ => (ae_ix hu1 (av 3) ae_int)))))
    (ass_one (as_ret (ae_callTy call_tuple_of abc_tup (aa_cons (ae_fz (ae_lc (own := [(("_law_number" : Str), 4)]) (tg := (.nm 4)) (by decide) rfl sc_law_fit.nd (ai_seq (av 1)) (blkOk_by (own := [(("_law_number" : Str), 4)]) (N := N_law_fit) (sc := defScope s_law_fit) (by decide +kernel)) (fun _ _ _ _ _ => (pgt_name 4 sc_law_fit.nd)) (fun _ _ _ _ _ => (ats_one (at_notinK hu1 (ae_ix hu1 (ae_call (ok_law_spot T) (hr.mono (by decide)) T.m_law_spot T.F_law_spot.kp T.b_law_spot (aa_cons (av 0) (aa_cons (av 4) aa_nil))) ae_int) (av 2)))) (fun _ _ _ _ _ => (av 4)))) aa_nil) T.n_tuple boot_tuple))))) spec_law_fit
def sp_law_whole : ASp := fun ds M Q => ∃ i : Int, ds = [.int i] ∧ Q (.bl true) M
def t_law_whole : RS := (aRet (aAndV (aFn acIsi (aCons (aVar 0) (aCons (aC (.ty "int")) aNil))) (aNotV (aFn acIsi (aCons (aVar 0) (aCons (aC (.ty "bool")) aNil))))))
theorem len_law_whole : ∀ ds M Q, sp_law_whole ds M Q → ds.length = 1 := by
  rintro ds M Q ⟨i, rfl, _⟩
  rfl
theorem spec_law_whole : ∀ ds M Q, sp_law_whole ds M Q → t_law_whole (retD Q) (startA 1 ds) M := by
  rintro ds M Q ⟨i, rfl, k⟩
  (conv => whnf)
  refine ⟨true, kit_ii, ?_⟩
  (conv => whnf)
  refine ⟨false, kit_ib, ?_⟩
  (conv => whnf)
  exact retEnd k
theorem ok_law_whole (T : Tx K mg) : FnA P w K mg base 1 T.f_law_whole T.d_law_whole [("_law_thing" : Str)] sp_law_whole :=
  fnA T.F_law_whole sc_law_whole len_law_whole (fun cdv A outer s H E hr => by
    have hu1 := hu_of hr
    have hu64 := hr.units
    exact (ass_one (as_ret (ae_and (ae_callB call_isi abc_isi (aa_cons (av 0) (aa_cons (ae_gty rfl T.n_int boot_int) aa_nil)) T.n_isinstance boot_isinstance) (ae_and1 (ae_not (ae_callB call_isi abc_isi (aa_cons (av 0) (aa_cons (ae_gty rfl T.n_bool boot_bool) aa_nil)) T.n_isinstance boot_isinstance))))))) spec_law_whole
def sp_law_rising : ASp := fun ds M Q => ∃ L : List Nat, ds = [.tup (dnsV L)] ∧ L.Pairwise (· < ·) ∧ L.length ≤ 100000 ∧ Q (.bl true) M
def tk_law_rising_1 : RS := (aRet (aFn acAll (aCons (aFz (aLc (aiR1 (aCons (aOp aSub (aFn acLen (aCons (aVar 0) aNil)) (aC (.int 1))) aNil)) (.nm 2) [2] aYes (aOp aLt (aOp aIx (aVar 0) (aVar 2)) (aOp aIx (aVar 0) (aOp aAdd (aVar 2) (aC (.int 1))))))) aNil)))
def t_law_rising : RS := aSeq (aIfS (aOr (aNot (aTru (aFn acIsi (aCons (aVar 0) (aCons (aC (.ty "tuple")) aNil))))) (aNot (aTru (aFn acAll (aCons (aFz (aLc (aiSeq (aVar 0)) (.nm 1) [1] aYes (aCall sp_law_whole (aCons (aVar 1) aNil)))) aNil))))) (aRet (aC (.bl false))) aNext) (tk_law_rising_1)
theorem len_law_rising : ∀ ds M Q, sp_law_rising ds M Q → ds.length = 1 := by
  rintro ds M Q ⟨L, rfl, _⟩
  rfl
theorem spec_law_rising : ∀ ds M Q, sp_law_rising ds M Q → t_law_rising (retD Q) (startA 3 ds) M := by
  rintro ds M Q ⟨L, rfl, up, hl, k⟩
  have dl := dns_len L
  decreasing_tactic
  refine lcM (fun _ => .bl true) (fun _ => rfl) (by rw [dl]; exact le_line (by omega)) (fun d hd M' N hs q => ?_) ?_
  · obtain ⟨x, _, rfl⟩ := List.mem_map.mp hd
    refine ⟨_, rfl, ?_⟩
    decreasing_tactic
    exact ⟨(x : Int), rfl, q⟩
  ((conv => whnf); refine ⟨_, acAll_eq, ?_⟩; rw [all_map_id])
  have a1 : (dnsV L).all (fun _ => true) = true := List.all_eq_true.mpr fun _ _ => rfl
  rw [a1]
  decreasing_tactic
  have rz : (rangeA 0 (((dnsV L).length : Int) - 1).toNat).length = L.length - 1 := by rw [rangeA_len, dl]; omega
  refine lcF (fun _ => .bl true) (fun _ => True.intro) (by rw [rz]; exact le_line (by omega)) (fun i d hd M' N hs q => ?_) ?_
  · have hi := (List.getElem?_eq_some_iff.mp hd).1
    obtain ⟨_, rfl⟩ := rangeA_get hd
    rw [rz] at hi
    have z0 : (0 : Int) + (i : Int) = (i : Int) := Int.zero_add _
    rw [z0]
    refine ⟨_, rfl, ?_⟩
    have h1 := dns_at (l := L) (i := i) (by omega)
    have h2 : atI (dnsV L) ((i : Int) + 1) = some (dn (L.getD (i + 1) 0)) := dns_at (l := L) (i := i + 1) (by omega)
    have lt : L.getD i 0 < L.getD (i + 1) 0 := by
      rw [List.getD_eq_getElem?_getD, List.getD_eq_getElem?_getD, List.getElem?_eq_getElem (show i < L.length by omega), List.getElem?_eq_getElem (show i + 1 < L.length by omega)]
      exact List.pairwise_iff_getElem.mp up i (i + 1) _ _ (Nat.lt_succ_self _)
    decreasing_tactic
    ((repeat ((conv => whnf); simp only [lenA_r, itemsA_r, lstA_r, lstC_s, Option.map_some, atI_0, ixN_0, mup_same, mup_mup, true_and, and_true, List.map_cons, List.map_nil, List.length_cons, List.length_map, List.length_nil, List.set_cons_zero, List.set_cons_succ, List.cons_append, List.nil_append, List.getElem?_cons_zero, List.getElem?_cons_succ, h1, h2])); (conv => whnf))
    rw [decide_eq_true (show ((L.getD i 0 : Nat) : Int) < ((L.getD (i + 1) 0 : Nat) : Int) by omega)]
    exact q
  · rw [rz]
    ((conv => whnf); refine ⟨_, acAll_eq, ?_⟩; rw [all_map_id])
    have a2 : (List.range (L.length - 1)).all (fun _ => true) = true := List.all_eq_true.mpr fun _ _ => rfl
    rw [a2]
    exact retEnd k
theorem ok_law_rising (T : Tx K mg) : FnA P w K mg base 2 T.f_law_rising T.d_law_rising [("_law_thing" : Str)] sp_law_rising :=
  fnA T.F_law_rising sc_law_rising len_law_rising (fun cdv A outer s H E hr => by
    have hu1 := hu_of hr
    have hu64 := hr.units
    exact (ass_cons (as_if (AW.pt (aw_or (at_not (at_tru (ae_callB call_isi abc_isi (aa_cons (av 0) (aa_cons (ae_gty rfl T.n_tuple boot_tuple) aa_nil)) T.n_isinstance boot_isinstance))) (aw_or1 (at_not (at_tru (ae_callB (cr_all rfl) abc_all (aa_cons (ae_fz (ae_lc (own := [(("_law_part" : Str), 1)]) (tg := (.nm 1)) (by decide) rfl sc_law_rising.nd (ai_seq (av 0)) (blkOk_by (own := [(("_law_part" : Str), 1)]) (N := N_law_rising) (sc := defScope s_law_rising) (by decide +kernel)) (fun _ _ _ _ _ => (pgt_name 1 sc_law_rising.nd)) (fun _ _ _ _ _ => ats_nil) (fun _ _ _ _ _ => (ae_call (ok_law_whole T) (hr.mono (by decide)) T.m_law_whole T.F_law_whole.kp T.b_law_whole (aa_cons (av 1) aa_nil))))) aa_nil) T.n_all boot_all)))))) (ass_one (as_ret ae_bl)) ass_nil)
    (ass_one (as_ret (ae_callB (cr_all rfl) abc_all (aa_cons (ae_fz (ae_lc (own := [(("_law_k" : Str), 2)]) (tg := (.nm 2)) (by decide) rfl sc_law_rising.nd (ai_range1 T.n_range (aa_cons (ae_sub (ae_callB call_len abc_len (aa_cons (av 0) aa_nil) T.n_len boot_len) ae_int) aa_nil)) (blkOk_by (own := [(("_law_k" : Str), 2)]) (N := N_law_rising) (sc := defScope s_law_rising) (by decide +kernel)) (fun _ _ _ _ _ => (pgt_name 2 sc_law_rising.nd)) (fun _ _ _ _ _ => ats_nil) (fun _ _ _ _ _ => (ae_lt (ae_ix hu1 (av 0) (av 2)) (ae_ix hu1 (av 0) (ae_add (av 2) ae_int)))))) aa_nil) T.n_all boot_all))))) spec_law_rising
def sp_law_meets : ASp := fun ds M Q => ∃ N : List NdT, ∃ L : List (Nat × List Nat), ds = [plV L, lnV N] ∧ L.length = N.length ∧ L.length ≤ 1000 ∧ (∀ (i : Nat) (x : Nat × List Nat) (n : NdT), L[i]? = some x → N[i]? = some n → x.1 = n.1 ∧ x.2.Pairwise (· < ·) ∧ x.2.length = n.2.2 ∧ x.2.length ≤ 1000 ∧ ∀ d ∈ x.2, d ∈ n.2.1) ∧ Q (.bl true) M
def tk_law_meets_2 : RS := (aRet (aC (.bl true)))
def tk_law_meets_1 : RS := aSeq (aFor (aiZipX (aCons (aVar 0) (aCons (aVar 1) aNil))) (agTup 2 (agCons (agName 2) (agCons (agName 3) agNil))) (aSeq (aIfS (aOr (aNot (aTru (aFn acIsi (aCons (aVar 2) (aCons (aC (.ty "tuple")) aNil))))) (aOr (aB (aOp aNe (aFn acLen (aCons (aVar 2) aNil)) (aC (.int 2)))) (aNot (aTru (aCall sp_law_whole (aCons (aOp aIx (aVar 2) (aC (.int 0))) aNil)))))) (aRet (aC (.bl false))) aNext)
    (aSeq (aIfS (aOr (aB (aOp aNe (aOp aIx (aVar 2) (aC (.int 0))) (aOp aIx (aVar 3) (aC (.int 0))))) (aOr (aNot (aTru (aCall sp_law_rising (aCons (aOp aIx (aVar 2) (aC (.int 1))) aNil)))) (aB (aOp aNe (aFn acLen (aCons (aOp aIx (aVar 2) (aC (.int 1))) aNil)) (aOp aIx (aVar 3) (aC (.int 2))))))) (aRet (aC (.bl false))) aNext)
    (aIfS (aNot (aTru (aFn acAll (aCons (aFz (aLc (aiSeq (aOp aIx (aVar 2) (aC (.int 1)))) (.nm 4) [4] aYes (aOp aInK (aVar 4) (aOp aIx (aVar 3) (aC (.int 1)))))) aNil)))) (aRet (aC (.bl false))) aNext)))) (tk_law_meets_2)
def t_law_meets : RS := aSeq (aIfS (aOr (aNot (aTru (aFn acIsi (aCons (aVar 0) (aCons (aC (.ty "tuple")) aNil))))) (aB (aOp aNe (aFn acLen (aCons (aVar 0) aNil)) (aFn acLen (aCons (aVar 1) aNil))))) (aRet (aC (.bl false))) aNext) (tk_law_meets_1)
theorem len_law_meets : ∀ ds M Q, sp_law_meets ds M Q → ds.length = 2 := by
  rintro ds M Q ⟨N, L, rfl, _⟩
  rfl
theorem spec_law_meets : ∀ ds M Q, sp_law_meets ds M Q → t_law_meets (retD Q) (startA 5 ds) M := by
  rintro ds M Q ⟨N, L, rfl, hl, hz, h, k⟩
  have l1 : (L.map fun x => Dv.tup [dn x.1, .tup (dnsV x.2)]).length = L.length := List.length_map _
  have l2 : (N.map fun n => Dv.tup [dn n.1, .rol (dnsV n.2.1), dn n.2.2]).length = N.length := List.length_map _
  decreasing_tactic
  have zl : (zipD (L.map fun x => Dv.tup [dn x.1, .tup (dnsV x.2)]) (N.map fun n => Dv.tup [dn n.1, .rol (dnsV n.2.1), dn n.2.2])).length = L.length := by rw [zipD_len, l1, l2, hl, Nat.min_self]
  refine forW_inv (fun i ρ M' => ∃ x2 x3 x4, ρ = [some (plV L), some (lnV N), x2, x3, x4] ∧ M' = M) ⟨none, none, none, rfl, rfl⟩ (fun _ _ _ _ _ => ⟨rfl, rfl⟩) ?_ ?_
  · rintro i d ρ M' hi ⟨x2, x3, x4, rfl, rfl⟩
    have hi0 := (List.getElem?_eq_some_iff.mp hi).1
    rw [zl] at hi0
    obtain ⟨x, hx⟩ : ∃ x, L[i]? = some x := ⟨_, List.getElem?_eq_getElem hi0⟩
    obtain ⟨n, hn⟩ : ∃ n, N[i]? = some n := ⟨_, List.getElem?_eq_getElem (by omega)⟩
    have hz2 := zipD_get (xs := L.map fun x => Dv.tup [dn x.1, .tup (dnsV x.2)]) (ys := N.map fun n => Dv.tup [dn n.1, .rol (dnsV n.2.1), dn n.2.2]) (by rw [List.getElem?_map, hx]; rfl) (by rw [List.getElem?_map, hn]; rfl)
    rw [hz2] at hi
    cases hi
    obtain ⟨h1, h2, h3, h4, h5⟩ := h i x n hx hn
    have k1 := keysD_dns n.2.1
    have dl := dns_len x.2
    have lw : Dv.int (([dn x.1, Dv.tup (dnsV x.2)].length : Nat) : Int) = Dv.int 2 := rfl
    decreasing_tactic
    refine ⟨((x.1 : Nat) : Int), rfl, ?_⟩
    decreasing_tactic
    refine ⟨x.2, rfl, h2, by omega, ?_⟩
    have l3 : Dv.int (((dnsV x.2).length : Nat) : Int) = Dv.int ((n.2.2 : Nat) : Int) := by rw [dl, h3]
    decreasing_tactic
    refine lcM (fun _ => .bl true) (fun _ => rfl) (by rw [dl]; exact le_line (by omega)) (fun d hd M1 N1 hs q => ?_) ?_
    · obtain ⟨y, hy, rfl⟩ := List.mem_map.mp hd
      refine ⟨_, rfl, ?_⟩
      decreasing_tactic
      ((repeat ((conv => whnf); simp only [lenA_r, itemsA_r, lstA_r, lstC_s, Option.map_some, atI_0, ixN_0, mup_same, mup_mup, true_and, and_true, List.map_cons, List.map_nil, List.length_cons, List.length_map, List.length_nil, List.set_cons_zero, List.set_cons_succ, List.cons_append, List.nil_append, List.getElem?_cons_zero, List.getElem?_cons_succ, k1])); (conv => whnf))
      rw [memK_nats, decide_eq_true (h5 y hy)]
      exact q
    ((conv => whnf); refine ⟨_, acAll_eq, ?_⟩; rw [all_map_id])
    have a1 : (dnsV x.2).all (fun _ => true) = true := List.all_eq_true.mpr fun _ _ => rfl
    rw [a1]
    decreasing_tactic
    exact wk_of ⟨_, _, _, rfl, rfl⟩
  · rintro ρ M' ⟨x2, x3, x4, rfl, rfl⟩
    decreasing_tactic
    exact retEnd k
theorem ok_law_meets (T : Tx K mg) : FnA P w K mg base 3 T.f_law_meets T.d_law_meets [("_law_plan" : Str), ("_law_needs" : Str)] sp_law_meets :=
  fnA T.F_law_meets sc_law_meets len_law_meets (fun cdv A outer s H E hr => by
    have hu1 := hu_of hr
    have hu64 := hr.units
    exact (ass_cons (as_if (AW.pt (aw_or (at_not (at_tru (ae_callB call_isi abc_isi (aa_cons (av 0) (aa_cons (ae_gty rfl T.n_tuple boot_tuple) aa_nil)) T.n_isinstance boot_isinstance))) (aw_or1 (at_ne hu64 (ae_callB call_len abc_len (aa_cons (av 0) aa_nil) T.n_len boot_len) (ae_callB call_len abc_len (aa_cons (av 1) aa_nil) T.n_len boot_len))))) (ass_one (as_ret ae_bl)) ass_nil)
    (ass_cons (as_for PassesOwn.never rfl (ai_zipX T.n_zip (aa_cons (av 0) (aa_cons (av 1) aa_nil))) (ag_tup rfl (ags_cons (ag_name 2 sc_law_meets.nd) (ags_cons (ag_name 3 sc_law_meets.nd) ags_nil))) (ass_cons (as_if (AW.pt (aw_or (at_not (at_tru (ae_callB call_isi abc_isi (aa_cons (av 2) (aa_cons (ae_gty rfl T.n_tuple boot_tuple) aa_nil)) T.n_isinstance boot_isinstance))) (aw_or (at_ne hu64 (ae_callB call_len abc_len (aa_cons (av 2) aa_nil) T.n_len boot_len) ae_int) (aw_or1 (at_not (at_tru (ae_call (ok_law_whole T) (hr.mono (by decide)) T.m_law_whole T.F_law_whole.kp T.b_law_whole (aa_cons (ae_ix hu1 (av 2) ae_int) aa_nil)))))))) (ass_one (as_ret ae_bl)) ass_nil)
    (ass_cons (as_if (AW.pt (aw_or (at_ne hu64 (ae_ix hu1 (av 2) ae_int) (ae_ix hu1 (av 3) ae_int)) (aw_or (at_not (at_tru (ae_call (ok_law_rising T) (hr.mono (by decide)) T.m_law_rising T.F_law_rising.kp T.b_law_rising (aa_cons (ae_ix hu1 (av 2) ae_int) aa_nil)))) (aw_or1 (at_ne hu64 (ae_callB call_len abc_len (aa_cons (ae_ix hu1 (av 2) ae_int) aa_nil) T.n_len boot_len) (ae_ix hu1 (av 3) ae_int)))))) (ass_one (as_ret ae_bl)) ass_nil)
    (ass_one (as_if (at_not (at_tru (ae_callB (cr_all rfl) abc_all (aa_cons (ae_fz (ae_lc (own := [(("_law_disk" : Str), 4)]) (tg := (.nm 4)) (by decide) rfl sc_law_meets.nd (ai_seq (ae_ix hu1 (av 2) ae_int)) (blkOk_by (own := [(("_law_disk" : Str), 4)]) (N := N_law_meets) (sc := defScope s_law_meets) (by decide +kernel)) (fun _ _ _ _ _ => (pgt_name 4 sc_law_meets.nd)) (fun _ _ _ _ _ => ats_nil) (fun _ _ _ _ _ => (ae_inK hu1 (av 4) (ae_ix hu1 (av 3) ae_int))))) aa_nil) T.n_all boot_all))) (ass_one (as_ret ae_bl)) ass_nil)))))
    (ass_one (as_ret ae_bl))))) spec_law_meets
def sp_law_state : ASp := fun ds M Q => ∃ ns : List Int, ds = [.rol (ns.map Dv.int)] ∧ ∀ p M', M p = none → DPot p p M' → Sub M M' → Q (.ref p) M'
def tk_law_state_2 : RS := (aRet (aOp aAdd (aLc (aiSeq (aFz (aSl (aVar 0) aoN (aoS (aC (.int 63)))))) (.nm 2) [2] (aB (aOp aGe (aFn acAbs (aCons (aVar 2) aNil)) (aOp aPow (aC (.int 10)) (aC (.int 18))))) (aFn acAbs (aCons (aVar 2) aNil))) (aLst (aCons (aVar 1) aNil))))
def tk_law_state_1 : RS := aSeq (aFor (aiSeq (aFz (aSl (aVar 0) aoN (aoS (aC (.int 63)))))) (agName 2) (aAsg (aOp aMod (aOp aAdd (aOp aAdd (aOp aMul (aVar 1) (aC (.int 1442695040888963407))) (aOp aMod (aVar 2) (aOp aPow (aC (.int 10)) (aC (.int 40))))) (aC (.int 3))) (aC (.int 2305843009213693951))) (agName 1))) (tk_law_state_2)
def t_law_state : RS := aSeq (aAsg (aC (.int 7)) (agName 1)) (tk_law_state_1)
theorem len_law_state : ∀ ds M Q, sp_law_state ds M Q → ds.length = 1 := by
  rintro ds M Q ⟨ns, rfl, _⟩
  rfl
theorem spec_law_state : ∀ ds M Q, sp_law_state ds M Q → t_law_state (retD Q) (startA 3 ds) M := by
  rintro ds M Q ⟨ns, rfl, k⟩
  decreasing_tactic
  refine forW_inv (fun i ρ M' => ∃ (s : Int) (x2 : Option Dv), ρ = [some (.rol (ns.map Dv.int)), some (.int s), x2] ∧ M' = M) ⟨7, none, rfl, rfl⟩ (fun _ _ _ _ _ => rfl) ?_ ?_
  · rintro i d ρ M' hi ⟨s, x2, rfl, rfl⟩
    have hm := List.mem_of_getElem? hi
    unfold cutA at hm
    obtain ⟨c, _, rfl⟩ := List.mem_map.mp (List.mem_of_mem_drop (List.mem_of_mem_take hm))
    have p40 : (0 : Int) < 10 ^ Int.toNat 40 := by decide +kernel
    decreasing_tactic
    exact wk_of ⟨_, _, rfl, rfl⟩
  · rintro ρ M' ⟨s, x2, rfl, rfl⟩
    have cl : (cutA (ns.map Dv.int) none (some 63)).length ≤ 63 := by
      have e : cutA (ns.map Dv.int) none (some ((63 : Nat) : Int)) = (ns.map Dv.int).take 63 := by
        unfold cutA
        rw [HT.sIx_none, HT.sIx_nat, List.drop_zero, Nat.sub_zero, List.take_eq_take_iff]
        omega
      have e : (cutA (ns.map Dv.int) none (some 63)).length = ((ns.map Dv.int).take 63).length := congrArg List.length e
      rw [e, List.length_take]
      omega
    have cm : ∀ d ∈ cutA (ns.map Dv.int) none (some 63), ∃ c : Int, d = .int c := fun d hd => by
      unfold cutA at hd
      obtain ⟨c, _, rfl⟩ := List.mem_map.mp (List.mem_of_mem_drop (List.mem_of_mem_take hd))
      exact ⟨c, rfl⟩
    decreasing_tactic
    generalize cutA (ns.map Dv.int) none (some 63) = L at cl cm ⊢
    refine lcO (fun i => match L.getD i .non with | .int c => if (10 : Int) ^ (18 : Int).toNat ≤ (if c < 0 then -c else c) then some (.int (if c < 0 then -c else c)) else none | _ => none) (fun _ _ => rfl) (le_line (by omega)) (fun i d hd M1 N hs q => ?_) fun D hD => ?_
    · obtain ⟨c, rfl⟩ := cm d (List.mem_of_getElem? hd)
      have e : L.getD i .non = .int c := by rw [List.getD_eq_getElem?_getD, hd]; rfl
      rw [e] at q
      have q : N (if (10 : Int) ^ (18 : Int).toNat ≤ (if c < 0 then -c else c) then some (.int (if c < 0 then -c else c)) else none) M1 := q
      refine ⟨_, rfl, ?_⟩
      decreasing_tactic
      by_cases h : (10 : Int) ^ (18 : Int).toNat ≤ (if c < 0 then -c else c)
      · rw [if_pos h] at q
        rw [decide_eq_true h]
        decreasing_tactic
        exact q
      · rw [if_neg h] at q
        rw [decide_eq_false h]
        exact q
    · have ex : ∃ xs : List Int, (List.range L.length).filterMap (fun i => match L.getD i .non with | .int c => if (10 : Int) ^ (18 : Int).toNat ≤ (if c < 0 then -c else c) then some (Dv.int (if c < 0 then -c else c)) else none | _ => none) = xs.map Dv.int := by
        have any : ∀ X : List Dv, (∀ x ∈ X, ∃ c : Int, x = .int c) → ∃ xs : List Int, X = xs.map Dv.int := by
          intro X
          induction X with
          | nil => exact fun _ => ⟨[], rfl⟩
          | cons x X ih =>
            intro h
            obtain ⟨c, rfl⟩ := h x (.head _)
            obtain ⟨xs, rfl⟩ := ih fun y hy => h y (.tail _ hy)
            exact ⟨c :: xs, rfl⟩
        refine any _ fun x hx => ?_
        obtain ⟨i, _, hi⟩ := List.mem_filterMap.mp hx
        generalize L.getD i .non = z at hi
        cases z <;> first | (cases hi; done) | skip
        case int c =>
          have hi : (if (10 : Int) ^ (18 : Int).toNat ≤ (if c < 0 then -c else c) then some (Dv.int (if c < 0 then -c else c)) else none) = some x := hi
          by_cases h : (10 : Int) ^ (18 : Int).toNat ≤ (if c < 0 then -c else c)
          · rw [if_pos h] at hi
            cases hi
            exact ⟨_, rfl⟩
          · rw [if_neg h] at hi
            cases hi
      have le := List.length_filterMap_le (fun i => match L.getD i .non with | .int c => if (10 : Int) ^ (18 : Int).toNat ≤ (if c < 0 then -c else c) then some (Dv.int (if c < 0 then -c else c)) else none | _ => none) (List.range L.length)
      obtain ⟨xs, ex⟩ := ex
      rw [ex] at le ⊢
      rw [List.length_map, List.length_range] at le
      decreasing_tactic
      intro D2 hD2
      decreasing_tactic
      have nD : D ≠ D2 := ne_of_new mup_same hD2
      have fD2 : M' D2 = none := by rw [mup_ne nD.symm] at hD2; exact hD2
      refine ⟨_, _, (mup_ne nD).trans mup_same, mup_same, le_line (by rw [List.length_map, List.length_singleton]; omega), fun p hp => ?_⟩
      have n2 : D2 ≠ p := ne_of_new mup_same hp
      rw [mup_ne n2.symm] at hp
      have n3 : D ≠ p := ne_of_new mup_same hp
      rw [mup_ne n3.symm] at hp
      refine retEnd (k p _ hp ⟨rfl, xs ++ [s], ?_, by simp, by rw [List.length_append, List.length_singleton]; omega⟩ (((Sub.new hD).mut fD2).mut hp))
      unfold drQ
      rw [List.map_append]
      exact mup_same
theorem ok_law_state (T : Tx K mg) : FnA P w K mg base 1 T.f_law_state T.d_law_state [("_law_script" : Str)] sp_law_state :=
  fnA T.F_law_state sc_law_state len_law_state (fun cdv A outer s H E hr => by
    have hu1 := hu_of hr
    have hu64 := hr.units
    exact (ass_cons (as_set 1 sc_law_state.nd ae_int)
    (ass_cons (as_for PassesOwn.never rfl (ai_seq (ae_fz (ae_slice (av 0) ao_none (ao_some ae_int)))) (ag_name 2 sc_law_state.nd) (ass_one (as_set 1 sc_law_state.nd (ae_mod (ae_add (ae_add (ae_mul (av 1) ae_int) (ae_mod (av 2) (ae_pow ae_int ae_int))) ae_int) ae_int))))
    (ass_one (as_ret (ae_add (ae_lc (own := [(("_law_cell" : Str), 2)]) (tg := (.nm 2)) (by decide) rfl sc_law_state.nd (ai_seq (ae_fz (ae_slice (av 0) ao_none (ao_some ae_int)))) (blkOk_by (own := [(("_law_cell" : Str), 2)]) (N := N_law_state) (sc := defScope s_law_state) (by decide +kernel)) (fun _ _ _ _ _ => (pgt_name 2 sc_law_state.nd)) (fun _ _ _ _ _ => (ats_one (at_ge (ae_callB call_abs abc_abs (aa_cons (av 2) aa_nil) T.n_abs boot_abs) (ae_pow ae_int ae_int)))) (fun _ _ _ _ _ => (ae_callB call_abs abc_abs (aa_cons (av 2) aa_nil) T.n_abs boot_abs))) (ae_lst (aa_cons (av 1) aa_nil)))))))) spec_law_state
def sp_law_store : ASp := fun ds M Q => ∃ p q, ds = [.ref p] ∧ DPot p q M ∧ ∀ (s : Store) M', DPot p q M' → But p q M M' → s.Ok → s.journal = [] → Q s.d M'
def tk_law_store_10 : RS := (aRet (aTup (aCons (aTup (aCons (aVar 2) (aCons (aVar 4) (aCons (aVar 5) (aCons (aVar 3) (aCons (aVar 7) (aCons (aCall sp_law_next (aCons (aVar 0) (aCons (aC (.int 4)) aNil))) aNil))))))) (aCons (aFn acTup (aCons (aFz (aVar 10)) aNil)) (aCons (aTup aNil) aNil)))))
def tk_law_store_9 : RS := aSeq (aFor (aiR1 (aCons (aOp aIx (aFz (aLst (aCons (aC (.int 0)) (aCons (aC (.int 0)) (aCons (aC (.int 1)) (aCons (aC (.int 1)) (aCons (aC (.int 2)) (aCons (aC (.int 3)) aNil)))))))) (aCall sp_law_next (aCons (aVar 0) (aCons (aC (.int 6)) aNil)))) aNil)) (agName 9) (aAsg (aC .non) (agSub (aVar 10) (aCall sp_law_next (aCons (aVar 0) (aCons (aFn acLen (aCons (aVar 10) aNil)) aNil))) asSet))) (tk_law_store_10)
def tk_law_store_8 : RS := aSeq (aAsg (aLc (aiSeq (aVar 8)) (.nm 13) [13] aYes (aFn acTup (aCons (aVar 13) aNil))) (agName 10)) (tk_law_store_9)
def tk_law_store_7 : RS := aSeq (aFor (aiR1 (aCons (aCall sp_law_next (aCons (aVar 0) (aCons (aOp aIx (aFz (aLst (aCons (aC (.int 5)) (aCons (aC (.int 40)) aNil)))) (aVar 1)) aNil))) aNil)) (agName 9) (aAsg (aC .non) (agSub (aOp aIx (aVar 8) (aCall sp_law_next (aCons (aVar 0) (aCons (aFn acLen (aCons (aVar 8) aNil)) aNil)))) (aCall sp_law_next (aCons (aVar 0) (aCons (aVar 5) aNil))) asSet))) (tk_law_store_8)
def tk_law_store_6 : RS := aSeq (aAsg (aLc (aiR1 (aCons (aOp aAdd (aVar 3) (aVar 6)) aNil)) (.nm 11) [11] aYes (aLc (aiR1 (aCons (aVar 5) aNil)) (.nm 12) [12] aYes (aOp aMul (aTup (aCons (aC (.int 0)) aNil)) (aVar 4)))) (agName 8)) (tk_law_store_7)
def tk_law_store_5 : RS := aSeq (aAsg (aOp aMul (aCall sp_law_next (aCons (aVar 0) (aCons (aVar 5) aNil))) (aVar 6)) (agName 7)) (tk_law_store_6)
def tk_law_store_4 : RS := aSeq (aAsg (aFn acInt (aCons (aAndV (aOp aEq (aCall sp_law_next (aCons (aVar 0) (aCons (aC (.int 3)) aNil))) (aC (.int 0))) (aOp aLt (aVar 3) (aC (.int 10)))) aNil)) (agName 6)) (tk_law_store_5)
def tk_law_store_3 : RS := aSeq (aAsg (aTup (aCons (aOp aAdd (aC (.int 1)) (aCall sp_law_next (aCons (aVar 0) (aCons (aOp aIx (aFz (aLst (aCons (aC (.int 3)) (aCons (aC (.int 16)) aNil)))) (aVar 1)) aNil)))) (aCons (aOp aAdd (aC (.int 1)) (aCall sp_law_next (aCons (aVar 0) (aCons (aOp aIx (aFz (aLst (aCons (aC (.int 5)) (aCons (aC (.int 24)) aNil)))) (aVar 1)) aNil)))) aNil))) (agTup 2 (agCons (agName 4) (agCons (agName 5) agNil)))) (tk_law_store_4)
def tk_law_store_2 : RS := aSeq (aAsg (aOp aAdd (aOp aAdd (aVar 2) (aC (.int 1))) (aCall sp_law_next (aCons (aVar 0) (aCons (aOp aIx (aFz (aLst (aCons (aC (.int 4)) (aCons (aOp aSub (aC (.int 10)) (aVar 2)) aNil)))) (aVar 1)) aNil)))) (agName 3)) (tk_law_store_3)
def tk_law_store_1 : RS := aSeq (aAsg (aOp aAdd (aC (.int 1)) (aCall sp_law_next (aCons (aVar 0) (aCons (aC (.int 2)) aNil)))) (agName 2)) (tk_law_store_2)
def t_law_store : RS := aSeq (aAsg (aFn acInt (aCons (aOp aEq (aCall sp_law_next (aCons (aVar 0) (aCons (aC (.int 8)) aNil))) (aC (.int 0))) aNil)) (agName 1)) (tk_law_store_1)
theorem len_law_store : ∀ ds M Q, sp_law_store ds M Q → ds.length = 1 := by
  rintro ds M Q ⟨p, q, rfl, _⟩
  rfl
structure TabL (p q : Addr) (M M' : Ms) (D : Addr) (as : List Addr) (R Z : Nat) : Prop where
  pot : DPot p q M'
  but : But p q M M'
  at_ : M' D = some (.lst (as.map fun a => Dv.ref a))
  row : ∀ a ∈ as, M a = none ∧ a ≠ p ∧ a ≠ D ∧ ∃ row : List (Option Blk), M' a = some (.lst (row.map oD)) ∧ row.length = R ∧ ∀ o ∈ row, ∀ b, o = some b → BlkOk' b Z
theorem TabL.next {p q : Addr} {M M1 M2 : Ms} {D : Addr} {as : List Addr} {R Z : Nat} (T : TabL p q M M1 D as R Z) (nD : D ≠ p) (d : DPot p q M2) (b : But p q M1 M2) : TabL p q M M2 D as R Z :=
  ⟨d, T.but.trans b, b.at nD (by rw [d.e]; exact nD) T.at_, fun a ha => by
    obtain ⟨x1, x2, x3, row, x4, x5⟩ := T.row a ha
    exact ⟨x1, x2, x3, row, b.at x2 (by rw [d.e]; exact x2) x4, x5⟩⟩
theorem TabL.set {p q : Addr} {M M1 : Ms} {D a : Addr} {as : List Addr} {R Z : Nat} {row : List (Option Blk)} (T : TabL p q M M1 D as R Z) (ha : a ∈ as) (h1 : row.length = R) (h2 : ∀ o ∈ row, ∀ b, o = some b → BlkOk' b Z) : TabL p q M (mup M1 a (.lst (row.map oD))) D as R Z := by
  obtain ⟨x1, x2, x3, _⟩ := T.row a ha
  refine ⟨T.pot.put x2 (by rw [T.pot.e]; exact x2), T.but.put x1, (mup_ne x3.symm).trans T.at_, fun x hx => ?_⟩
  by_cases e : x = a
  · rw [e]
    exact ⟨x1, x2, x3, row, mup_same, h1, h2⟩
  · obtain ⟨y1, y2, y3, r, y4, y5⟩ := T.row x hx
    exact ⟨y1, y2, y3, r, (mup_ne e).trans y4, y5⟩
theorem spec_law_store : ∀ ds M Q, sp_law_store ds M Q → t_law_store (retD Q) (startA 14 ds) M := by
  rintro ds M Q ⟨p, q, rfl, hd, k⟩
  decreasing_tactic
  (refine ⟨_, _, _, rfl, by assumption, (by infer_instance), (by infer_instance), fun g Mg dg bg lg => ?_⟩; decreasing_tactic)
  rw [HC.dec_int]
  obtain ⟨gr, hgr, eg⟩ : ∃ gr : Nat, gr < 2 ∧ (if decide ((g : Int) = 0) = true then (1 : Int) else 0) = (gr : Int) := by
    by_cases c : (g : Int) = 0
    · exact ⟨1, by omega, by rw [if_pos (decide_eq_true c)]; rfl⟩
    · exact ⟨0, by omega, by rw [if_neg (by rw [decide_eq_false c]; decide)]; rfl⟩
  have pick : ∀ a b : Int, ∃ c : Int, atI [Dv.int a, Dv.int b] (gr : Int) = some (.int c) ∧ (c = a ∨ c = b) := fun a b => by
    rcases (show gr = 0 ∨ gr = 1 by omega) with rfl | rfl
    · exact ⟨a, HC.atI_nat (i := 0) rfl, .inl rfl⟩
    · exact ⟨b, HC.atI_nat (i := 1) rfl, .inr rfl⟩
  rw [eg]
  (refine ⟨_, _, _, rfl, by assumption, (by infer_instance), (by infer_instance), fun pa Mpa dpa bpa lpa => ?_⟩; decreasing_tactic)
  obtain ⟨c1, e1, h1⟩ := pick 4 (10 - (1 + (pa : Int)))
  ((repeat ((conv => whnf); simp only [lenA_r, itemsA_r, lstA_r, lstC_s, Option.map_some, atI_0, ixN_0, mup_same, mup_mup, true_and, and_true, List.map_cons, List.map_nil, List.length_cons, List.length_map, List.length_nil, List.set_cons_zero, List.set_cons_succ, List.cons_append, List.nil_append, List.getElem?_cons_zero, List.getElem?_cons_succ, e1])); (conv => whnf))
  (refine ⟨_, _, _, rfl, by assumption, (by infer_instance), (by infer_instance), fun wi Mwi dwi bwi lwi => ?_⟩; decreasing_tactic)
  obtain ⟨c2, e2, h2⟩ := pick 3 16
  ((repeat ((conv => whnf); simp only [lenA_r, itemsA_r, lstA_r, lstC_s, Option.map_some, atI_0, ixN_0, mup_same, mup_mup, true_and, and_true, List.map_cons, List.map_nil, List.length_cons, List.length_map, List.length_nil, List.set_cons_zero, List.set_cons_succ, List.cons_append, List.nil_append, List.getElem?_cons_zero, List.getElem?_cons_succ, e2])); (conv => whnf))
  (refine ⟨_, _, _, rfl, by assumption, (by infer_instance), (by infer_instance), fun sz Msz dsz bsz lsz => ?_⟩; decreasing_tactic)
  obtain ⟨c3, e3, h3⟩ := pick 5 24
  ((repeat ((conv => whnf); simp only [lenA_r, itemsA_r, lstA_r, lstC_s, Option.map_some, atI_0, ixN_0, mup_same, mup_mup, true_and, and_true, List.map_cons, List.map_nil, List.length_cons, List.length_map, List.length_nil, List.set_cons_zero, List.set_cons_succ, List.cons_append, List.nil_append, List.getElem?_cons_zero, List.getElem?_cons_succ, e3])); (conv => whnf))
  (refine ⟨_, _, _, rfl, by assumption, (by infer_instance), (by infer_instance), fun ro Mro dro bro lro => ?_⟩; decreasing_tactic)
  (refine ⟨_, _, _, rfl, by assumption, (by infer_instance), (by infer_instance), fun gw Mgw dgw bgw lgw => ?_⟩; decreasing_tactic)
  have lim : pa < 2 ∧ wi < 10 ∧ 1 + pa + 1 + wi ≤ 10 ∧ sz < 16 ∧ ro < 24 := by
    rcases h1 with h1 | h1 <;> rcases h2 with h2 | h2 <;> rcases h3 with h3 | h3 <;> omega
  have i1 : (1 : Int) + (pa : Int) + 1 + (wi : Int) = ((1 + pa + 1 + wi : Nat) : Int) := by omega
  have i2 : (1 : Int) + (pa : Int) = ((1 + pa : Nat) : Int) := by omega
  have i3 : (1 : Int) + (sz : Int) = ((1 + sz : Nat) : Int) := by omega
  have i4 : (1 : Int) + (ro : Int) = ((1 + ro : Nat) : Int) := by omega
  rw [i1, i2, i3, i4]
  have h0 : 1 ≤ 1 + pa ∧ 1 + pa ≤ 2 ∧ 1 + pa + 1 ≤ 1 + pa + 1 + wi ∧ 1 + pa + 1 + wi ≤ 10 ∧ 1 ≤ 1 + sz ∧ 1 + sz ≤ 16 ∧ 1 ≤ 1 + ro ∧ 1 + ro ≤ 24 := by omega
  have bg : But p q M Mgw := ((((bg.trans bpa).trans bwi).trans bsz).trans bro).trans bgw
  clear lim i1 i2 i3 i4 h1 h2 h3 e1 e2 e3 bpa bwi bsz bro bgw
  generalize 1 + pa + 1 + wi = W at h0 ⊢
  generalize 1 + pa = A at h0 ⊢
  generalize 1 + sz = Z at h0 ⊢
  generalize 1 + ro = R at h0 ⊢
  have rest : ∀ gv : Nat, (gv = 0 ∨ (gv = 1 ∧ W < 10)) → tk_law_store_5 (retD Q) [some (.ref p), some (dn gr), some (dn A), some (dn W), some (dn Z), some (dn R), some (dn gv), none, none, none, none, none, none, none] Mgw := by
    intro gv hgv
    decreasing_tactic
    (refine ⟨_, _, _, rfl, by assumption, (by infer_instance), (by infer_instance), fun mo Mmo dmo bmo lmo => ?_⟩; decreasing_tactic)
    have wg : W + gv ≤ 10 := by omega
    have iw : ((W : Int) + (gv : Int)).toNat = W + gv := by omega
    intro D hD
    have nDp := dmo.nep hD
    have bD0 : But p q M Mmo := bg.trans bmo
    have RowOk : True := True.intro
    have tab := fun (M' : Ms) (as : List Addr) (n : Nat) => DPot p q M' ∧ But p q M M' ∧ M' D = some (.lst (as.map fun a => Dv.ref a)) ∧ as.length = n ∧ ∀ a ∈ as, M a = none ∧ a ≠ p ∧ a ≠ D ∧ ∃ row : List (Option Blk), M' a = some (.lst (row.map oD)) ∧ row.length = R ∧ ∀ o ∈ row, ∀ b, o = some b → BlkOk' b Z
    refine lcW_inv (fun i M' => ∃ as : List Addr, DPot p q M' ∧ But p q M M' ∧ M' D = some (.lst (as.map fun a => Dv.ref a)) ∧ as.length = i ∧ ∀ a ∈ as, M a = none ∧ a ≠ p ∧ a ≠ D ∧ ∃ row : List (Option Blk), M' a = some (.lst (row.map oD)) ∧ row.length = R ∧ ∀ o ∈ row, ∀ b, o = some b → BlkOk' b Z) ⟨[], dmo.put nDp (dmo.neq hD), bD0.new hD, mup_same, rfl, fun a ha => by cases ha⟩ (fun _ _ _ _ => True.intro) ?_ ?_
    · rintro i d M1 hi ⟨as, d1, b1, hl1, al, ra⟩
      obtain ⟨hi, rfl⟩ := rangeA_get hi
      refine ⟨_, rfl, ?_⟩
      have ez : (List.replicate ((Z : Nat) : Int).toNat [Dv.int 0]).flatten = (List.replicate Z 0).map fun n => dn n := by
        rw [Int.toNat_natCast, List.map_replicate]
        generalize Z = m
        induction m with
        | zero => rfl
        | succ m ih => rw [List.replicate_succ, List.replicate_succ, List.flatten_cons, ih]; rfl
      have rz : (rangeA 0 ((R : Nat) : Int).toNat).length = R := by rw [rangeA_len, Int.toNat_natCast]
      decreasing_tactic
      refine lcO (fun _ => some (oD (some (List.replicate Z 0)))) (fun _ _ => True.intro) (by rw [rz]; exact le_line (by omega)) (fun j d hd M2 N hs q => ?_) fun a ha => ?_
      · obtain ⟨_, rfl⟩ := rangeA_get hd
        refine ⟨_, rfl, ?_⟩
        decreasing_tactic
        rw [ez]
        exact q
      · rw [rz]
        have ef : (List.range R).filterMap (fun _ => some (oD (some (List.replicate Z 0)))) = (List.replicate R (some (List.replicate Z 0))).map oD := by
          rw [List.filterMap_eq_map', List.map_replicate]
          rw [List.map_const', List.length_range]
        rw [ef]
        have aD : a ≠ D := (ne_of_new hl1 ha).symm
        have ap := d1.nep ha
        have aq := d1.neq ha
        have mD : M D = none := but_free bD0 (fun z => nDp z) (dmo.neq hD) hD
        refine ⟨_, (mup_ne aD.symm).trans hl1, lt_line (by rw [List.length_map]; omega), _, Sub.refl _, as ++ [a], (d1.put ap aq).put nDp (dmo.neq hD), (b1.new ha).put mD, by rw [mup_same, List.map_append]; rfl, by rw [List.length_append, al]; rfl, fun x hx => ?_⟩
        rcases List.mem_append.mp hx with hx | hx
        · obtain ⟨x1, x2, x3, row, x4, x5⟩ := ra x hx
          exact ⟨x1, x2, x3, row, (mup_ne x3).trans ((mup_ne (ne_of_new x4 ha)).trans x4), x5⟩
        · rw [List.mem_singleton.mp hx]
          refine ⟨but_free b1 ap aq ha, ap, aD, List.replicate R (some (List.replicate Z 0)), (mup_ne aD).trans mup_same, List.length_replicate, fun o ho b hb => ?_⟩
          rw [(List.mem_replicate.mp ho).2] at hb
          cases hb
          exact ⟨List.length_replicate, fun y hy => by rw [(List.mem_replicate.mp hy).2]; decide⟩
    · rintro M1 ⟨as, d1, b1, hl1, al, ra⟩
      rw [rangeA_len, iw] at al
      obtain ⟨c5, e5, h5⟩ := pick 5 40
      decreasing_tactic
      ((repeat ((conv => whnf); simp only [lenA_r, itemsA_r, lstA_r, lstC_s, Option.map_some, atI_0, ixN_0, mup_same, mup_mup, true_and, and_true, List.map_cons, List.map_nil, List.length_cons, List.length_map, List.length_nil, List.set_cons_zero, List.set_cons_succ, List.cons_append, List.nil_append, List.getElem?_cons_zero, List.getElem?_cons_succ, e5])); (conv => whnf))
      (refine ⟨_, _, _, rfl, by assumption, (by infer_instance), (by infer_instance), fun nb Mnb dnb bnb lnb => ?_⟩; decreasing_tactic)
      have T0 : TabL p q M Mnb D as R Z := ⟨dnb, b1.trans bnb, bnb.at nDp (dmo.neq hD) hl1, fun a ha => by
        obtain ⟨x1, x2, x3, row, x4, x5⟩ := ra a ha
        exact ⟨x1, x2, x3, row, bnb.at x2 (by rw [d1.e]; exact x2) x4, x5⟩⟩
      have mD : M D = none := but_free bD0 (fun z => nDp z) (dmo.neq hD) hD
      refine forW_inv (fun j ρ M2 => ∃ x9, ρ = [some (.ref p), some (dn gr), some (dn A), some (dn W), some (dn Z), some (dn R), some (dn gv), some (.int ((mo : Int) * (gv : Int))), some (.ref D), x9, none, none, none, none] ∧ TabL p q M M2 D as R Z) ⟨none, rfl, T0⟩ (fun _ _ _ _ _ => True.intro) ?_ ?_
      · rintro j d ρ M2 hj ⟨x9, rfl, T⟩
        obtain ⟨_, rfl⟩ := rangeA_get hj
        have d2 := T.pot
        have hl2 := T.at_
        have la : (as.map fun a => Dv.ref a).length = W + gv := by rw [List.length_map]; exact al
        have lc : ((W + gv : Nat) : Int) = (W : Int) + (gv : Int) := by omega
        decreasing_tactic
        (refine ⟨_, _, _, rfl, by assumption, (by infer_instance), (by infer_instance), fun u Mu du bu lu => ?_⟩; decreasing_tactic)
        have Tu := T.next nDp du bu
        have hlu := Tu.at_
        have ul : u < as.length := by rw [la] at lu; omega
        obtain ⟨a, ha⟩ : ∃ a, as[u]? = some a := ⟨_, List.getElem?_eq_getElem ul⟩
        have eu : atI (as.map fun a => Dv.ref a) (u : Int) = some (.ref a) := HC.atI_nat (by rw [List.getElem?_map, ha]; rfl)
        ((repeat ((conv => whnf); simp only [lenA_r, itemsA_r, lstA_r, lstC_s, Option.map_some, atI_0, ixN_0, mup_same, mup_mup, true_and, and_true, List.map_cons, List.map_nil, List.length_cons, List.length_map, List.length_nil, List.set_cons_zero, List.set_cons_succ, List.cons_append, List.nil_append, List.getElem?_cons_zero, List.getElem?_cons_succ, hlu, eu])); (conv => whnf))
        (refine ⟨_, _, _, rfl, by assumption, (by infer_instance), (by infer_instance), fun v Mv dv bv lv => ?_⟩; decreasing_tactic)
        have Tv := Tu.next nDp dv bv
        obtain ⟨_, _, _, row, hrow, rl, rf⟩ := Tv.row a (List.mem_of_getElem? ha)
        have ix : ixN row.length (v : Int) = some v := ixN_nat (by rw [rl]; omega)
        ((repeat ((conv => whnf); simp only [lenA_r, itemsA_r, lstA_r, lstC_s, Option.map_some, atI_0, ixN_0, mup_same, mup_mup, true_and, and_true, List.map_cons, List.map_nil, List.length_cons, List.length_map, List.length_nil, List.set_cons_zero, List.set_cons_succ, List.cons_append, List.nil_append, List.getElem?_cons_zero, List.getElem?_cons_succ, hrow, ix])); (conv => whnf))
        have es : (row.map oD).set v Dv.non = (row.set v none).map oD := by
          rw [List.map_set]
          rfl
        rw [es]
        refine wk_of ⟨_, rfl, Tv.set (List.mem_of_getElem? ha) (by rw [List.length_set]; exact rl) fun o ho b hb => ?_⟩
        rcases List.mem_or_eq_of_mem_set ho with h | h
        · exact rf o h b hb
        · rw [h] at hb; cases hb
      · rintro ρ M2 ⟨x9, rfl, T⟩
        have d2 := T.pot
        have hl2 := T.at_
        decreasing_tactic
        have al2 : (as.map fun a => Dv.ref a).length = W + gv := by rw [List.length_map]; exact al
        obtain ⟨fr, hfr⟩ := Classical.axiomOfChoice (r := fun (a : Addr) (row : List (Option Blk)) => a ∈ as → M2 a = some (.lst (row.map oD)) ∧ row.length = R ∧ ∀ o ∈ row, ∀ b, o = some b → BlkOk' b Z) (fun a => by
          by_cases h : a ∈ as
          · obtain ⟨_, _, _, row, x⟩ := T.row a h
            exact ⟨row, fun _ => x⟩
          · exact ⟨[], fun z => absurd z h⟩)
        refine lcO (fun j => some (kD (some (fr (as.getD j p))))) (fun M3 hs => by simp only [itemsA, hs _ _ hl2]) (by rw [al2]; exact le_line (by omega)) (fun j d hd M3 N hs q => ?_) fun E hE => ?_
        · rw [List.getElem?_map] at hd
          obtain ⟨a, ha, rfl⟩ := Option.map_eq_some_iff.mp hd
          have ga : as.getD j p = a := by rw [List.getD_eq_getElem?_getD, ha]; rfl
          rw [ga] at q
          obtain ⟨f1, f2, f3⟩ := hfr a (List.mem_of_getElem? ha)
          have f4 := hs _ _ f1
          refine ⟨_, rfl, ?_⟩
          decreasing_tactic
          ((repeat ((conv => whnf); simp only [lenA_r, itemsA_r, lstA_r, lstC_s, Option.map_some, atI_0, ixN_0, mup_same, mup_mup, true_and, and_true, List.map_cons, List.map_nil, List.length_cons, List.length_map, List.length_nil, List.set_cons_zero, List.set_cons_succ, List.cons_append, List.nil_append, List.getElem?_cons_zero, List.getElem?_cons_succ, f4])); (conv => whnf))
          exact q
        · have ek : (List.range (as.map fun a => Dv.ref a).length).filterMap (fun j => some (kD (some (fr (as.getD j p))))) = (as.map fun a => some (fr a)).map kD := by
            rw [List.length_map, fm_idx as (fun a => some (kD (some (fr a)))) p, List.filterMap_eq_map', List.map_map]
            rfl
          rw [ek]
          have kOk : ∀ k ∈ as.map (fun a => some (fr a)), DiskOk k Z R := fun k hk => by
            obtain ⟨a, ha, rfl⟩ := List.mem_map.mp hk
            obtain ⟨f1, f2, f3⟩ := hfr a ha
            intro bs hb
            cases hb
            exact ⟨f2, f3⟩
          have klen : (as.map fun a => some (fr a)).length = W + gv := by rw [List.length_map]; exact al
          have Ep := d2.nep hE
          have Eq := d2.neq hE
          have d3 : DPot p q (mup M2 E (.lst ((as.map fun a => some (fr a)).map kD))) := d2.put Ep Eq
          have b3 : But p q M (mup M2 E (.lst ((as.map fun a => some (fr a)).map kD))) := T.but.new hE
          have hE3 : mup M2 E (.lst ((as.map fun a => some (fr a)).map kD)) E = some (.lst ((as.map fun a => some (fr a)).map kD)) := mup_same
          have mE : M E = none := but_free T.but Ep Eq hE
          generalize mup M2 E (.lst ((as.map fun a => some (fr a)).map kD)) = M3 at d3 b3 hE3 ⊢
          generalize as.map (fun a => some (fr a)) = ks at kOk klen hE3
          decreasing_tactic
          (refine ⟨_, _, _, rfl, by assumption, (by infer_instance), (by infer_instance), fun nn Mnn dnn bnn lnn => ?_⟩; decreasing_tactic)
          obtain ⟨c6, e6, h6⟩ : ∃ c : Int, atI [Dv.int 0, Dv.int 0, Dv.int 1, Dv.int 1, Dv.int 2, Dv.int 3] (nn : Int) = some (.int c) ∧ 0 ≤ c ∧ c ≤ 3 := by
            have : nn < 6 := by omega
            rcases (show nn = 0 ∨ nn = 1 ∨ nn = 2 ∨ nn = 3 ∨ nn = 4 ∨ nn = 5 by omega) with rfl | rfl | rfl | rfl | rfl | rfl
            · exact ⟨0, HC.atI_nat (i := 0) rfl, by decide⟩
            · exact ⟨0, HC.atI_nat (i := 1) rfl, by decide⟩
            · exact ⟨1, HC.atI_nat (i := 2) rfl, by decide⟩
            · exact ⟨1, HC.atI_nat (i := 3) rfl, by decide⟩
            · exact ⟨2, HC.atI_nat (i := 4) rfl, by decide⟩
            · exact ⟨3, HC.atI_nat (i := 5) rfl, by decide⟩
          ((repeat ((conv => whnf); simp only [lenA_r, itemsA_r, lstA_r, lstC_s, Option.map_some, atI_0, ixN_0, mup_same, mup_mup, true_and, and_true, List.map_cons, List.map_nil, List.length_cons, List.length_map, List.length_nil, List.set_cons_zero, List.set_cons_succ, List.cons_append, List.nil_append, List.getElem?_cons_zero, List.getElem?_cons_succ, e6])); (conv => whnf))
          refine ⟨⟨by omega, by omega⟩, ?_⟩
          decreasing_tactic
          refine forW_inv (fun j ρ M4 => ∃ y9, ∃ ks : List Disk, ρ = [some (.ref p), some (dn gr), some (dn A), some (dn W), some (dn Z), some (dn R), some (dn gv), some (.int ((mo : Int) * (gv : Int))), some (.ref D), y9, some (.ref E), none, none, none] ∧ DPot p q M4 ∧ But p q M M4 ∧ M4 E = some (.lst (ks.map kD)) ∧ ks.length = W + gv ∧ ∀ k ∈ ks, DiskOk k Z R) ⟨_, ks, rfl, dnn, b3.trans bnn, bnn.at Ep Eq hE3, klen, kOk⟩ (fun _ _ _ _ _ => True.intro) ?_ ?_
          · rintro j d ρ M4 hj ⟨y9, ks, rfl, d4, b4, hE4, kl, kOk⟩
            obtain ⟨_, rfl⟩ := rangeA_get hj
            decreasing_tactic
            refine ⟨_, _, _, rfl, d4, by rw [List.length_map, kl]; omega, by rw [List.length_map, kl]; omega, fun u Mu du bu lu => ?_⟩
            decreasing_tactic
            have hE5 := bu.at Ep Eq hE4
            have ul : u < ks.length := by
              have h := Int.ofNat_lt.mp lu
              rw [List.length_map] at h
              exact h
            have ix : ixN ks.length (u : Int) = some u := ixN_nat ul
            ((repeat ((conv => whnf); simp only [lenA_r, itemsA_r, lstA_r, lstC_s, Option.map_some, atI_0, ixN_0, mup_same, mup_mup, true_and, and_true, List.map_cons, List.map_nil, List.length_cons, List.length_map, List.length_nil, List.set_cons_zero, List.set_cons_succ, List.cons_append, List.nil_append, List.getElem?_cons_zero, List.getElem?_cons_succ, hE5, ix])); (conv => whnf))
            have es : (ks.map kD).set u Dv.non = (ks.set u none).map kD := by
              rw [List.map_set]
              rfl
            rw [es]
            refine ⟨_, _, SubE.refl _, Sub.refl _, _, ks.set u none, rfl, du.put Ep Eq, (b4.trans bu).put mE, mup_same, by rw [List.length_set]; exact kl, fun k hk => ?_⟩
            rcases List.mem_or_eq_of_mem_set hk with h | h
            · exact kOk k h
            · rw [h]; intro bs hb; cases hb
          · rintro ρ M4 ⟨y9, ks, rfl, d4, b4, hE4, kl, kOk⟩
            decreasing_tactic
            (refine ⟨_, _, _, rfl, by assumption, (by infer_instance), (by infer_instance), fun sp Msp dsp bsp lsp => ?_⟩; decreasing_tactic)
            have hE5 := bsp.at Ep Eq hE4
            refine onS_of (a := ks.map kD) (by rw [hE5]; rfl) ⟨_, mdel_same, mdel_sub, ?_⟩
            have em : (mo : Int) * (gv : Int) = ((mo * gv : Nat) : Int) := (Int.natCast_mul mo gv).symm
            rw [em]
            decreasing_tactic
            have mg : (W + gv = W ∧ mo * gv = 0) ∨ (W + gv = W + 1 ∧ W + gv ≤ 10 ∧ mo * gv < R) := by
              rcases hgv with h | ⟨h, _⟩
              · left; rw [h]; exact ⟨rfl, Nat.mul_zero _⟩
              · right; rw [h, Nat.mul_one]; omega
            have ho : (⟨A, Z, R, W, mo * gv, sp⟩ : Head).Ok (W + gv) := headOk h0.1 h0.2.1 h0.2.2.2.2.1 h0.2.2.2.2.2.1 h0.2.2.2.2.2.2.1 h0.2.2.2.2.2.2.2 h0.2.2.1 h0.2.2.2.1 mg (by omega)
            exact retEnd (k ⟨⟨A, Z, R, W, mo * gv, sp⟩, ks, []⟩ _ (dsp.del Ep Eq) ((b4.trans bsp).del mE) ⟨by show Head.Ok _ ks.length; rw [kl]; exact ho, kOk, fun i n h => by cases h⟩ rfl)
  rw [HC.dec_int]
  by_cases c : (gw : Int) = 0
  · rw [decide_eq_true c]
    decreasing_tactic
    by_cases c2 : W < 10
    · rw [decide_eq_true (show (W : Int) < 10 by omega)]
      exact rest 1 (.inr ⟨rfl, c2⟩)
    · rw [decide_eq_false (show ¬ (W : Int) < 10 by omega)]
      exact rest 0 (.inl rfl)
  · rw [decide_eq_false c]
    decreasing_tactic
    exact rest 0 (.inl rfl)
theorem ok_law_store (T : Tx K mg) : FnA P w K mg base 2 T.f_law_store T.d_law_store [("_law_pot" : Str)] sp_law_store :=
  fnA T.F_law_store sc_law_store len_law_store (fun cdv A outer s H E hr => by
    have hu1 := hu_of hr
    have hu64 := hr.units
    exact (ass_cons (as_set 1 sc_law_store.nd (ae_callTy call_int1 abc_int (aa_cons (ae_eq hu64 (ae_call (ok_law_next T) (hr.mono (by decide)) T.m_law_next T.F_law_next.kp T.b_law_next (aa_cons (av 0) (aa_cons ae_int aa_nil))) ae_int) aa_nil) T.n_int boot_int))
    (ass_cons (as_set 2 sc_law_store.nd (ae_add ae_int (ae_call (ok_law_next T) (hr.mono (by decide)) T.m_law_next T.F_law_next.kp T.b_law_next (aa_cons (av 0) (aa_cons ae_int aa_nil)))))
    (ass_cons (as_set 3 sc_law_store.nd (ae_add (ae_add (av 2) ae_int) (ae_call (ok_law_next T) (hr.mono (by decide)) T.m_law_next T.F_law_next.kp T.b_law_next (aa_cons (av 0) (aa_cons (ae_ix hu1 (ae_fz (ae_lst (aa_cons ae_int (aa_cons (ae_sub ae_int (av 2)) aa_nil)))) (av 1)) aa_nil)))))
    (ass_cons (as_asg (ae_tup (aa_cons (ae_add ae_int (ae_call (ok_law_next T) (hr.mono (by decide)) T.m_law_next T.F_law_next.kp T.b_law_next (aa_cons (av 0) (aa_cons (ae_ix hu1 (ae_fz (ae_lst (aa_cons ae_int (aa_cons ae_int aa_nil)))) (av 1)) aa_nil)))) (aa_cons (ae_add ae_int (ae_call (ok_law_next T) (hr.mono (by decide)) T.m_law_next T.F_law_next.kp T.b_law_next (aa_cons (av 0) (aa_cons (ae_ix hu1 (ae_fz (ae_lst (aa_cons ae_int (aa_cons ae_int aa_nil)))) (av 1)) aa_nil)))) aa_nil))) (ag_tup rfl (ags_cons (ag_name 4 sc_law_store.nd) (ags_cons (ag_name 5 sc_law_store.nd) ags_nil))))
    (ass_cons (as_set 6 sc_law_store.nd (ae_callTy call_int1 abc_int (aa_cons (ae_and (ae_eq hu64 (ae_call (ok_law_next T) (hr.mono (by decide)) T.m_law_next T.F_law_next.kp T.b_law_next (aa_cons (av 0) (aa_cons ae_int aa_nil))) ae_int) (ae_and1 (ae_lt (av 3) ae_int))) aa_nil) T.n_int boot_int))
    (ass_cons (as_set 7 sc_law_store.nd (ae_mul (ae_call (ok_law_next T) (hr.mono (by decide)) T.m_law_next T.F_law_next.kp T.b_law_next (aa_cons (av 0) (aa_cons (av 5) aa_nil))) (av 6)))
    (ass_cons (as_setLc 8 (own := [(("_law_disk" : Str), 11)]) (tg := (.nm 11)) (by decide) rfl sc_law_store.nd rfl rfl (sw_true rfl rfl rfl (by decide +kernel)) (ai_range1 T.n_range (aa_cons (ae_add (av 3) (av 6)) aa_nil)) (blkOk_by (own := [(("_law_disk" : Str), 11)]) (N := N_law_store) (sc := defScope s_law_store) (by decide +kernel)) (fun _ _ _ _ _ => (pgt_name 11 sc_law_store.nd)) (fun _ _ _ _ _ => ats_nil) (fun _ _ _ _ _ => (ae_lc (own := [(("_law_row" : Str), 12)]) (tg := (.nm 12)) (by decide) rfl sc_law_store.nd (ai_range1 T.n_range (aa_cons (av 5) aa_nil)) (blkOk_by (own := [(("_law_row" : Str), 12)]) (N := N_law_store) (sc := _) rfl) (fun _ _ _ _ _ => (pgt_name 12 sc_law_store.nd)) (fun _ _ _ _ _ => ats_nil) (fun _ _ _ _ _ => (ae_mul (ae_tup (aa_cons ae_int aa_nil)) (av 4))))))
    (ass_cons (as_for PassesOwn.never rfl (ai_range1 T.n_range (aa_cons (ae_call (ok_law_next T) (hr.mono (by decide)) T.m_law_next T.F_law_next.kp T.b_law_next (aa_cons (av 0) (aa_cons (ae_ix hu1 (ae_fz (ae_lst (aa_cons ae_int (aa_cons ae_int aa_nil)))) (av 1)) aa_nil))) aa_nil)) (ag_name 9 sc_law_store.nd) (ass_one (as_asg ae_non (ag_sub hu1 (ae_ix hu1 (av 8) (ae_call (ok_law_next T) (hr.mono (by decide)) T.m_law_next T.F_law_next.kp T.b_law_next (aa_cons (av 0) (aa_cons (ae_callB call_len abc_len (aa_cons (av 8) aa_nil) T.n_len boot_len) aa_nil)))) (ae_call (ok_law_next T) (hr.mono (by decide)) T.m_law_next T.F_law_next.kp T.b_law_next (aa_cons (av 0) (aa_cons (av 5) aa_nil)))))))
    (ass_cons (as_setLc 10 (own := [(("_law_blocks_here" : Str), 13)]) (tg := (.nm 13)) (by decide) rfl sc_law_store.nd rfl rfl (sw_true rfl rfl rfl (by decide +kernel)) (ai_seq (av 8)) (blkOk_by (own := [(("_law_blocks_here" : Str), 13)]) (N := N_law_store) (sc := defScope s_law_store) (by decide +kernel)) (fun _ _ _ _ _ => (pgt_name 13 sc_law_store.nd)) (fun _ _ _ _ _ => ats_nil) (fun _ _ _ _ _ => (ae_callTy call_tuple_of abc_tup (aa_cons (av 13) aa_nil) T.n_tuple boot_tuple)))
    (ass_cons (as_for PassesOwn.never rfl (ai_range1 T.n_range (aa_cons (ae_ix hu1 (ae_fz (ae_lst (aa_cons ae_int (aa_cons ae_int (aa_cons ae_int (aa_cons ae_int (aa_cons ae_int (aa_cons ae_int aa_nil)))))))) (ae_call (ok_law_next T) (hr.mono (by decide)) T.m_law_next T.F_law_next.kp T.b_law_next (aa_cons (av 0) (aa_cons ae_int aa_nil)))) aa_nil)) (ag_name 9 sc_law_store.nd) (ass_one (as_asg ae_non (ag_sub hu1 (av 10) (ae_call (ok_law_next T) (hr.mono (by decide)) T.m_law_next T.F_law_next.kp T.b_law_next (aa_cons (av 0) (aa_cons (ae_callB call_len abc_len (aa_cons (av 10) aa_nil) T.n_len boot_len) aa_nil)))))))
    (ass_one (as_ret (ae_tup (aa_cons (ae_tup (aa_cons (av 2) (aa_cons (av 4) (aa_cons (av 5) (aa_cons (av 3) (aa_cons (av 7) (aa_cons (ae_call (ok_law_next T) (hr.mono (by decide)) T.m_law_next T.F_law_next.kp T.b_law_next (aa_cons (av 0) (aa_cons ae_int aa_nil))) aa_nil))))))) (aa_cons (ae_callTy call_tuple_of abc_tup (aa_cons (ae_fz (av 10)) aa_nil) T.n_tuple boot_tuple) (aa_cons (ae_tup aa_nil) aa_nil))))))))))))))))) spec_law_store
def sp_blocks_kept : ASp := fun ds M Q => ∃ s : Store, ds = [s.d] ∧ s.Ok ∧ Q (dn s.kept) M
def tk_blocks_kept_1 : RS := (aRet (aOp aMul (aVar 3) (aOp aSub (aVar 4) (aVar 1))))
def t_blocks_kept : RS := aSeq (aAsg (aFz (aSl (aOp aIx (aVar 0) (aC (.int 0))) aoN (aoS (aC (.int 4))))) (agTup 4 (agCons (agName 1) (agCons (agName 2) (agCons (agName 3) (agCons (agName 4) agNil)))))) (tk_blocks_kept_1)
theorem len_blocks_kept : ∀ ds M Q, sp_blocks_kept ds M Q → ds.length = 1 := by
  rintro ds M Q ⟨s, rfl, _⟩
  rfl
theorem spec_blocks_kept : ∀ ds M Q, sp_blocks_kept ds M Q → t_blocks_kept (retD Q) (startA 5 ds) M := by
  rintro ds M Q ⟨s, rfl, ok, k⟩
  have r2 := ok.head.rows2
  have w1 := ok.head.width1
  have ec : cutA [dn s.head.par, dn s.head.size, dn s.head.rows, dn s.head.width, dn s.head.moved, dn s.head.spares] none (some 4) = [dn s.head.par, dn s.head.size, dn s.head.rows, dn s.head.width] := rfl
  decreasing_tactic
  rw [ec]
  decreasing_tactic
  have e : (s.head.rows : Int) * ((s.head.width : Int) - (s.head.par : Int)) = ((s.kept : Nat) : Int) := by
    rw [Store.kept, Int.natCast_mul, Int.ofNat_sub (by omega)]
  rw [e]
  exact retEnd k
theorem ok_blocks_kept (T : Tx K mg) : FnA P w K mg base 1 T.f_blocks_kept T.d_blocks_kept [("store" : Str)] sp_blocks_kept :=
  fnA T.F_blocks_kept sc_blocks_kept len_blocks_kept (fun cdv A outer s H E hr => by
    have hu1 := hu_of hr
    have hu64 := hr.units
    exact (ass_cons (as_asg (ae_fz (ae_slice (ae_ix hu1 (av 0) ae_int) ao_none (ao_some ae_int))) (ag_tup rfl (ags_cons (ag_name 1 sc_blocks_kept.nd) (ags_cons (ag_name 2 sc_blocks_kept.nd) (ags_cons (ag_name 3 sc_blocks_kept.nd) (ags_cons (ag_name 4 sc_blocks_kept.nd) ags_nil))))))
    (ass_one (as_ret (ae_mul (av 3) (ae_sub (av 4) (av 1))))))) spec_blocks_kept
def sp_look_whole : ASp := fun ds M Q => ∃ s : Store, ds = [s.d] ∧ s.journal = [] ∧ Q .non M
def t_look_whole : RS := (aIfS (aB (aOp aGt (aFn acLen (aCons (aOp aIx (aVar 0) (aC (.int 2))) aNil)) (aC (.int 0)))) aNever aNext)
theorem len_look_whole : ∀ ds M Q, sp_look_whole ds M Q → ds.length = 1 := by
  rintro ds M Q ⟨s, rfl, _⟩
  rfl
theorem spec_look_whole : ∀ ds M Q, sp_look_whole ds M Q → t_look_whole (retD Q) (startA 1 ds) M := by
  rintro ds M Q ⟨⟨h, ks, js⟩, rfl, hj, k⟩
  have hj : js = [] := hj
  subst hj
  decreasing_tactic
  exact ⟨M, Sub.refl M, k⟩
theorem ok_look_whole (T : Tx K mg) : FnA P w K mg base 1 T.f_look_whole T.d_look_whole [("store" : Str)] sp_look_whole :=
  fnA T.F_look_whole sc_look_whole len_look_whole (fun cdv A outer s H E hr => by
    have hu1 := hu_of hr
    have hu64 := hr.units
    exact (ass_one (as_if (at_gt (ae_callB call_len abc_len (aa_cons (ae_ix hu1 (av 0) ae_int) aa_nil) T.n_len boot_len) ae_int) (ass_one as_never) ass_nil))) spec_look_whole
def sp_look_wanted : ASp := fun ds M Q => ∃ s : Store, ∃ bs : List Nat, ds = [s.d, .tup (dnsV bs)] ∧ s.Ok ∧ s.journal = [] ∧ bs.length ≤ 1000 ∧ (∀ b ∈ bs, b < s.kept) ∧ Q .non M
def tk_look_wanted_1 : RS := (aDrop (aCall sp_look_whole (aCons (aVar 0) aNil)))
def t_look_wanted : RS := aSeq (aIfS (aTru (aFn acAny (aCons (aFz (aLc (aiSeq (aVar 1)) (.nm 2) [2] aYes (aNotV (aChain aLe aLt (aC (.int 0)) (aVar 2) (aCall sp_blocks_kept (aCons (aVar 0) aNil)))))) aNil))) aNever aNext) (tk_look_wanted_1)
theorem len_look_wanted : ∀ ds M Q, sp_look_wanted ds M Q → ds.length = 2 := by
  rintro ds M Q ⟨s, bs, rfl, _⟩
  rfl
theorem spec_look_wanted : ∀ ds M Q, sp_look_wanted ds M Q → t_look_wanted (retD Q) (startA 3 ds) M := by
  rintro ds M Q ⟨s, bs, rfl, ok, hj, bl, hk, k⟩
  have pl := dns_len bs
  decreasing_tactic
  refine lcM (fun _ => .bl false) (fun _ => rfl) (by rw [pl]; exact le_line (by omega)) (fun d hd M' N hs q => ?_) ?_
  · unfold dnsV at hd
    obtain ⟨b, hb, rfl⟩ := List.mem_map.mp hd
    have hb2 := hk b hb
    refine ⟨_, rfl, ?_⟩
    decreasing_tactic
    refine ⟨s, rfl, ok, ?_⟩
    decreasing_tactic
    rw [decide_eq_true (show ((b : Nat) : Int) < ((s.kept : Nat) : Int) from Int.ofNat_lt.mpr hb2)]
    exact q
  · ((conv => whnf); refine ⟨_, acAll_eq, ?_⟩; rw [any_map_id])
    rw [show ((dnsV bs).any fun _ => false) = false from List.any_eq_false.mpr fun _ _ => by decide]
    decreasing_tactic
    refine ⟨s, rfl, hj, ?_⟩
    decreasing_tactic
    exact retEnd k
theorem ok_look_wanted (T : Tx K mg) : FnA P w K mg base 2 T.f_look_wanted T.d_look_wanted [("store" : Str), ("wanted" : Str)] sp_look_wanted :=
  fnA T.F_look_wanted sc_look_wanted len_look_wanted (fun cdv A outer s H E hr => by
    have hu1 := hu_of hr
    have hu64 := hr.units
    exact (ass_cons (as_if (at_tru (ae_callB (cr_any rfl) abc_any (aa_cons (ae_fz (ae_lc (own := [(("number" : Str), 2)]) (tg := (.nm 2)) (by decide) rfl sc_look_wanted.nd (ai_seq (av 1)) (blkOk_by (own := [(("number" : Str), 2)]) (N := N_look_wanted) (sc := defScope s_look_wanted) (by decide +kernel)) (fun _ _ _ _ _ => (pgt_name 2 sc_look_wanted.nd)) (fun _ _ _ _ _ => ats_nil) (fun _ _ _ _ _ => (ae_not (ae_chain2 op_le op_lt ab_B0 ab_B0 ae_int (av 2) (ae_call (ok_blocks_kept T) (hr.mono (by decide)) T.m_blocks_kept T.F_blocks_kept.kp T.b_blocks_kept (aa_cons (av 0) aa_nil))))))) aa_nil) T.n_any boot_any)) (ass_one as_never) ass_nil)
    (ass_one (as_expr (ae_call (ok_look_whole T) (hr.mono (by decide)) T.m_look_whole T.F_look_whole.kp T.b_look_whole (aa_cons (av 0) aa_nil)))))) spec_look_wanted
def sp_disk_of : ASp := fun ds M Q => ∃ row place width : Nat, ds = [dn row, dn place, dn width] ∧ 0 < width ∧ Q (dn ((row + place) % width)) M
def t_disk_of : RS := (aRet (aOp aMod (aOp aAdd (aVar 0) (aVar 1)) (aVar 2)))
theorem len_disk_of : ∀ ds M Q, sp_disk_of ds M Q → ds.length = 3 := by
  rintro ds M Q ⟨row, place, width, rfl, _⟩
  rfl
theorem spec_disk_of : ∀ ds M Q, sp_disk_of ds M Q → t_disk_of (retD Q) (startA 3 ds) M := by
  rintro ds M Q ⟨row, place, width, rfl, h, k⟩
  decreasing_tactic
  exact retEnd k
theorem ok_disk_of (T : Tx K mg) : FnA P w K mg base 1 T.f_disk_of T.d_disk_of [("row" : Str), ("place" : Str), ("width" : Str)] sp_disk_of :=
  fnA T.F_disk_of sc_disk_of len_disk_of (fun cdv A outer s H E hr => by
    have hu1 := hu_of hr
    have hu64 := hr.units
    exact (ass_one (as_ret (ae_mod (ae_add (av 0) (av 1)) (av 2))))) spec_disk_of
def sp_row_width : ASp := fun ds M Q => ∃ s : Store, ∃ row : Nat, ds = [s.d, dn row] ∧ Q (dn (s.wide row)) M
def t_row_width : RS := (aRet (aOp aAdd (aOp aIx (aOp aIx (aVar 0) (aC (.int 0))) (aC (.int 3))) (aFn acInt (aCons (aOp aLt (aVar 1) (aOp aIx (aOp aIx (aVar 0) (aC (.int 0))) (aC (.int 4)))) aNil))))
theorem len_row_width : ∀ ds M Q, sp_row_width ds M Q → ds.length = 2 := by
  rintro ds M Q ⟨s, row, rfl, _⟩
  rfl
theorem spec_row_width : ∀ ds M Q, sp_row_width ds M Q → t_row_width (retD Q) (startA 2 ds) M := by
  rintro ds M Q ⟨s, row, rfl, k⟩
  decreasing_tactic
  unfold Store.wide at k
  by_cases h : row < s.head.moved
  · rw [if_pos h] at k
    rw [decide_eq_true (show (row : Int) < (s.head.moved : Int) by omega)]
    exact retEnd k
  · rw [if_neg h] at k
    rw [decide_eq_false (show ¬ (row : Int) < (s.head.moved : Int) by omega)]
    exact retEnd k
theorem ok_row_width (T : Tx K mg) : FnA P w K mg base 1 T.f_row_width T.d_row_width [("store" : Str), ("row" : Str)] sp_row_width :=
  fnA T.F_row_width sc_row_width len_row_width (fun cdv A outer s H E hr => by
    have hu1 := hu_of hr
    have hu64 := hr.units
    exact (ass_one (as_ret (ae_add (ae_ix hu1 (ae_ix hu1 (av 0) ae_int) ae_int) (ae_callTy call_int1 abc_int (aa_cons (ae_lt (av 1) (ae_ix hu1 (ae_ix hu1 (av 0) ae_int) ae_int)) aa_nil) T.n_int boot_int))))) spec_row_width
def sp_row_blocks : ASp := fun ds M Q => ∃ s : Store, ∃ row : Nat, ds = [s.d, dn row] ∧ s.Ok ∧ row < s.head.rows ∧ Q (.tuc ((s.row row).map oD)) M
def tk_row_blocks_3 : RS := (aRet (aFn acTupC (aCons (aVar 3) aNil)))
def tk_row_blocks_2 : RS := aSeq (aFor (aiR1 (aCons (aVar 2) aNil)) (agName 4) (aSeq (aAsg (aOp aIx (aOp aIx (aVar 0) (aC (.int 1))) (aCall sp_disk_of (aCons (aVar 1) (aCons (aVar 4) (aCons (aVar 2) aNil))))) (agName 5))
    (aDrop (aMth "list" amApp (aVar 3) (aCons (aIf (aB (aOp aIs (aVar 5) (aC .non))) (aC .non) (aOp aIx (aVar 5) (aVar 1))) aNil))))) (tk_row_blocks_3)
def tk_row_blocks_1 : RS := aSeq (aAsg (aLst aNil) (agName 3)) (tk_row_blocks_2)
def t_row_blocks : RS := aSeq (aAsg (aCall sp_row_width (aCons (aVar 0) (aCons (aVar 1) aNil))) (agName 2)) (tk_row_blocks_1)
theorem len_row_blocks : ∀ ds M Q, sp_row_blocks ds M Q → ds.length = 2 := by
  rintro ds M Q ⟨s, row, rfl, _⟩
  rfl
theorem spec_row_blocks : ∀ ds M Q, sp_row_blocks ds M Q → t_row_blocks (retD Q) (startA 6 ds) M := by
  rintro ds M Q ⟨s, row, rfl, ok, hr, k⟩
  have wp := ok.wide_pos row
  have wl := ok.wide_le row
  have wt := ok.wide_ten row
  decreasing_tactic
  refine ⟨s, row, rfl, ?_⟩
  decreasing_tactic
  intro r hr'
  decreasing_tactic
  refine forW_inv (fun i ρ M' => ∃ x4 x5, ρ = [some s.d, some (dn row), some (dn (s.wide row)), some (.ref r), x4, x5] ∧ M' r = some (.lst (((List.range i).map fun j => s.cell ((row + j) % s.wide row) row).map oD)) ∧ Sub M (mdel M' r)) ⟨none, none, rfl, mup_same, grow_new hr'⟩ (fun _ _ _ _ _ => trivial) ?_ ?_
  · rintro i d ρ M' hi ⟨x4, x5, rfl, hl, hs⟩
    obtain ⟨hi, rfl⟩ := rangeA_get hi
    rw [Int.zero_add]
    have hm : (row + i) % s.wide row < s.disks.length := Nat.lt_of_lt_of_le (Nat.mod_lt _ (by omega)) wl
    have fin : ∀ x4 x5, wk (fun ρ M' => ∃ x4 x5, ρ = [some s.d, some (dn row), some (dn (s.wide row)), some (.ref r), x4, x5] ∧ M' r = some (.lst (((List.range (i + 1)).map fun j => s.cell ((row + j) % s.wide row) row).map oD)) ∧ Sub M (mdel M' r))
        [some s.d, some (dn row), some (dn (s.wide row)), some (.ref r), x4, x5] (mup M' r (.lst (((List.range i).map fun j => s.cell ((row + j) % s.wide row) row).map oD ++ [oD (s.cell ((row + i) % s.wide row) row)]))) := fun x4 x5 => by
      refine wk_of ⟨_, _, rfl, ?_, grow_put hs⟩
      rw [mup_same, List.range_succ, List.map_append, List.map_append]
      rfl
    decreasing_tactic
    refine ⟨row, i, s.wide row, rfl, by omega, ?_⟩
    refine onS_of (HC.atI_nat (disk_at hm)) ?_
    cases e : s.disks.getD ((row + i) % s.wide row) none with
    | none =>
      rw [cell_lost e] at fin
      decreasing_tactic
      exact fin _ _
    | some bs =>
      rw [cell_there e] at fin
      have hb := (ok.disk (i := (row + i) % s.wide row) bs e).1
      decreasing_tactic
      refine onS_of (HC.atI_nat (block_at' (by omega))) ?_
      decreasing_tactic
      exact fin _ _
  · rintro ρ M' ⟨x4, x5, rfl, hl, hs⟩
    rw [rangeA_len, Int.toNat_natCast] at hl
    decreasing_tactic
    exact retSub (grow_sub hs) k
theorem ok_row_blocks (T : Tx K mg) : FnA P w K mg base 2 T.f_row_blocks T.d_row_blocks [("store" : Str), ("row" : Str)] sp_row_blocks :=
  fnA T.F_row_blocks sc_row_blocks len_row_blocks (fun cdv A outer s H E hr => by
    have hu1 := hu_of hr
    have hu64 := hr.units
    exact (ass_cons (as_set 2 sc_row_blocks.nd (ae_call (ok_row_width T) (hr.mono (by decide)) T.m_row_width T.F_row_width.kp T.b_row_width (aa_cons (av 0) (aa_cons (av 1) aa_nil))))
    (ass_cons (as_set 3 sc_row_blocks.nd (ae_lst aa_nil))
    (ass_cons (as_for PassesOwn.never rfl (ai_range1 T.n_range (aa_cons (av 2) aa_nil)) (ag_name 4 sc_row_blocks.nd) (ass_cons (as_set 5 sc_row_blocks.nd (ae_ix hu1 (ae_ix hu1 (av 0) ae_int) (ae_call (ok_disk_of T) (hr.mono (by decide)) T.m_disk_of T.F_disk_of.kp T.b_disk_of (aa_cons (av 1) (aa_cons (av 4) (aa_cons (av 2) aa_nil))))))
    (ass_one (as_expr (ae_append (av 3) (aa_cons (ae_if (at_is (av 5) ae_non) ae_non (ae_ix hu1 (av 5) (av 1))) aa_nil))))))
    (ass_one (as_ret (ae_callTy call_tuple_ofC abc_tupC (aa_cons (av 3) aa_nil) T.n_tuple boot_tuple))))))) spec_row_blocks
def sp_disks_read : ASp := fun ds M Q => ∃ s : Store, ∃ row : Nat, ds = [s.d, dn row] ∧ s.Ok ∧ row < s.head.rows ∧ Q (.rol (dnsV (readD s row))) M
def tk_disks_read_2 : RS := (aRet (aFz (aFn acSortI (aCons (aFz (aLc (aiR1 (aCons (aVar 2) aNil)) (.nm 4) [4] (aB (aOp aIsNot (aOp aIx (aVar 3) (aVar 4)) (aC .non))) (aCall sp_disk_of (aCons (aVar 1) (aCons (aVar 4) (aCons (aVar 2) aNil)))))) aNil))))
def tk_disks_read_1 : RS := aSeq (aAsg (aCast (aCall sp_row_blocks (aCons (aVar 0) (aCons (aVar 1) aNil)))) (agName 3)) (tk_disks_read_2)
def t_disks_read : RS := aSeq (aAsg (aCall sp_row_width (aCons (aVar 0) (aCons (aVar 1) aNil))) (agName 2)) (tk_disks_read_1)
theorem len_disks_read : ∀ ds M Q, sp_disks_read ds M Q → ds.length = 2 := by
  rintro ds M Q ⟨s, row, rfl, _⟩
  rfl
theorem spec_disks_read : ∀ ds M Q, sp_disks_read ds M Q → t_disks_read (retD Q) (startA 5 ds) M := by
  rintro ds M Q ⟨s, row, rfl, ok, hr, k⟩
  have wp := ok.wide_pos row
  have wl := ok.wide_le row
  have wt := ok.wide_ten row
  have rl : ((s.row row).map oD).length = s.wide row := by rw [List.length_map, Store.row_len]
  decreasing_tactic
  refine ⟨s, row, rfl, ?_⟩
  decreasing_tactic
  refine ⟨s, row, rfl, ok, hr, ?_⟩
  decreasing_tactic
  refine lcF_opt (fun j => if (s.cell ((row + j) % s.wide row) row).isSome = true then some (dn ((row + j) % s.wide row)) else none) (fun _ => True.intro) (by rw [rangeA_len]; exact le_line (by omega)) (fun j d hd M' N hs q => ?_) ?_
  · obtain ⟨hj, rfl⟩ := rangeA_get hd
    have hj : j < s.wide row := by omega
    have z0 : (0 : Int) + (j : Int) = (j : Int) := Int.zero_add _
    rw [z0]
    refine ⟨_, rfl, ?_⟩
    have ea : atI ((s.row row).map oD) (j : Int) = some (oD (s.cell ((row + j) % s.wide row) row)) := HC.atI_nat (by
      rw [List.getElem?_map]
      unfold Store.row
      rw [List.getElem?_map, List.getElem?_range hj]
      rfl)
    decreasing_tactic
    ((repeat ((conv => whnf); simp only [lenA_r, itemsA_r, lstA_r, lstC_s, Option.map_some, atI_0, ixN_0, mup_same, mup_mup, true_and, and_true, List.map_cons, List.map_nil, List.length_cons, List.length_map, List.length_nil, List.set_cons_zero, List.set_cons_succ, List.cons_append, List.nil_append, List.getElem?_cons_zero, List.getElem?_cons_succ, ea])); (conv => whnf))
    cases hc : s.cell ((row + j) % s.wide row) row with
    | none =>
      rw [hc] at q
      decreasing_tactic
      exact q
    | some b =>
      rw [hc] at q
      decreasing_tactic
      refine ⟨row, j, s.wide row, rfl, by omega, ?_⟩
      decreasing_tactic
      exact q
  · have ef : (List.range (rangeA 0 ((s.wide row : Nat) : Int).toNat).length).filterMap (fun j => if (s.cell ((row + j) % s.wide row) row).isSome = true then some (dn ((row + j) % s.wide row)) else none) = dnsV (((List.range (s.wide row)).filter fun j => (s.cell ((row + j) % s.wide row) row).isSome).map fun j => (row + j) % s.wide row) := by
      rw [rangeA_len, Int.toNat_natCast]
      unfold dnsV
      rw [List.map_map]
      exact fm_pick (fun j => (s.cell ((row + j) % s.wide row) row).isSome) (fun j => dn ((row + j) % s.wide row)) _
    rw [ef]
    decreasing_tactic
    refine ⟨_, by rw [← dns_ints]; rfl, fun ns' hp hs x hx => ?_⟩
    have e := sortN_cast hp hs
    subst e
    rw [← dns_ints]
    have e2 : sortN (((List.range (s.wide row)).filter fun j => (s.cell ((row + j) % s.wide row) row).isSome).map fun j => (row + j) % s.wide row) = readD s row := List.Perm.eq_of_pairwise (le := (· ≤ ·)) (fun a b _ _ h1 h2 => Nat.le_antisymm h1 h2) (sortN_pw _) ((readD_pw s row).imp Nat.le_of_lt) ((sortN_perm _).trans (readD_turn s row (by omega)))
    rw [e2]
    refine fz_new hx ?_
    decreasing_tactic
    exact retEnd k
theorem ok_disks_read (T : Tx K mg) : FnA P w K mg base 3 T.f_disks_read T.d_disks_read [("store" : Str), ("row" : Str)] sp_disks_read :=
  fnA T.F_disks_read sc_disks_read len_disks_read (fun cdv A outer s H E hr => by
    have hu1 := hu_of hr
    have hu64 := hr.units
    exact (ass_cons (as_set 2 sc_disks_read.nd (ae_call (ok_row_width T) (hr.mono (by decide)) T.m_row_width T.F_row_width.kp T.b_row_width (aa_cons (av 0) (aa_cons (av 1) aa_nil))))
    (ass_cons (as_set 3 sc_disks_read.nd (ae_cast (ae_call (ok_row_blocks T) (hr.mono (by decide)) T.m_row_blocks T.F_row_blocks.kp T.b_row_blocks (aa_cons (av 0) (aa_cons (av 1) aa_nil)))))
    (ass_one (as_ret (ae_fz (ae_callB cr_sortedI abc_sortI (aa_cons (ae_fz (ae_lc (own := [(("place" : Str), 4)]) (tg := (.nm 4)) (by decide) rfl sc_disks_read.nd (ai_range1 T.n_range (aa_cons (av 2) aa_nil)) (blkOk_by (own := [(("place" : Str), 4)]) (N := N_disks_read) (sc := defScope s_disks_read) (by decide +kernel)) (fun _ _ _ _ _ => (pgt_name 4 sc_disks_read.nd)) (fun _ _ _ _ _ => (ats_one (at_isnot (ae_ix hu1 (av 3) (av 4)) ae_non))) (fun _ _ _ _ _ => (ae_call (ok_disk_of T) (hr.mono (by decide)) T.m_disk_of T.F_disk_of.kp T.b_disk_of (aa_cons (av 1) (aa_cons (av 4) (aa_cons (av 2) aa_nil))))))) aa_nil) T.n_sorted boot_sorted))))))) spec_disks_read
def sp_any_need : ASp := fun ds M Q => ∃ s : Store, ∃ row : Nat, ds = [s.d, dn row] ∧ s.Ok ∧ row < s.head.rows ∧ s.wide row - s.head.par ≤ (readD s row).length ∧ Q (ndV (needD s row)) M
def tk_any_need_3 : RS := (aRet (aTup (aCons (aVar 1) (aCons (aFn acTup (aCons (aVar 3) aNil)) (aCons (aVar 2) aNil)))))
def tk_any_need_2 : RS := aSeq (aIfS (aB (aOp aLt (aFn acLen (aCons (aVar 3) aNil)) (aVar 2))) aNever aNext) (tk_any_need_3)
def tk_any_need_1 : RS := aSeq (aAsg (aCall sp_disks_read (aCons (aVar 0) (aCons (aVar 1) aNil))) (agName 3)) (tk_any_need_2)
def t_any_need : RS := aSeq (aAsg (aOp aSub (aCall sp_row_width (aCons (aVar 0) (aCons (aVar 1) aNil))) (aOp aIx (aOp aIx (aVar 0) (aC (.int 0))) (aC (.int 0)))) (agName 2)) (tk_any_need_1)
theorem len_any_need : ∀ ds M Q, sp_any_need ds M Q → ds.length = 2 := by
  rintro ds M Q ⟨s, row, rfl, _⟩
  rfl
theorem spec_any_need : ∀ ds M Q, sp_any_need ds M Q → t_any_need (retD Q) (startA 4 ds) M := by
  rintro ds M Q ⟨s, row, rfl, ok, hr, hl, k⟩
  have wp := ok.wide_pos row
  have wt := ok.wide_ten row
  have e : ((s.wide row : Nat) : Int) - ((s.head.par : Nat) : Int) = ((s.wide row - s.head.par : Nat) : Int) := by omega
  have dl := dns_len (readD s row)
  decreasing_tactic
  refine ⟨s, row, rfl, ?_⟩
  decreasing_tactic
  refine ⟨s, row, rfl, ok, hr, ?_⟩
  (dsimp only)
  rw [e]
  decreasing_tactic
  exact ⟨M, Sub.refl M, k⟩
theorem ok_any_need (T : Tx K mg) : FnA P w K mg base 4 T.f_any_need T.d_any_need [("store" : Str), ("row" : Str)] sp_any_need :=
  fnA T.F_any_need sc_any_need len_any_need (fun cdv A outer s H E hr => by
    have hu1 := hu_of hr
    have hu64 := hr.units
    exact (ass_cons (as_set 2 sc_any_need.nd (ae_sub (ae_call (ok_row_width T) (hr.mono (by decide)) T.m_row_width T.F_row_width.kp T.b_row_width (aa_cons (av 0) (aa_cons (av 1) aa_nil))) (ae_ix hu1 (ae_ix hu1 (av 0) ae_int) ae_int)))
    (ass_cons (as_set 3 sc_any_need.nd (ae_call (ok_disks_read T) (hr.mono (by decide)) T.m_disks_read T.F_disks_read.kp T.b_disks_read (aa_cons (av 0) (aa_cons (av 1) aa_nil))))
    (ass_cons (as_if (at_lt (ae_callB call_len abc_len (aa_cons (av 3) aa_nil) T.n_len boot_len) (av 2)) (ass_one as_never) ass_nil)
    (ass_one (as_ret (ae_tup (aa_cons (av 1) (aa_cons (ae_callTy call_tuple_of abc_tup (aa_cons (av 3) aa_nil) T.n_tuple boot_tuple) (aa_cons (av 2) aa_nil)))))))))) spec_any_need
def sp_row_need : ASp := fun ds M Q => ∃ s : Store, ∃ row : Nat, ∃ p : Addr, ∃ ps : List Nat, ds = [s.d, dn row, .ref p] ∧ s.Ok ∧ row < s.head.rows ∧ M p = some (.lst (dnsV ps)) ∧ (∀ j ∈ ps, j < s.wide row) ∧ ps.length ≤ 10 ∧ opnB s row ps = false ∧ Q (ndV (rowN s row ps)) M
def tk_row_need_4 : RS := (aRet (aCall sp_any_need (aCons (aVar 0) (aCons (aVar 1) aNil))))
def tk_row_need_3 : RS := aSeq (aIfS (aAnd (aTru (aVar 5)) (aB (aOp aLt (aFn acLen (aCons (aVar 2) aNil)) (aOp aSub (aVar 3) (aOp aIx (aOp aIx (aVar 0) (aC (.int 0))) (aC (.int 0))))))) (aSeq (aAsg (aFz (aFn acSortI (aCons (aFz (aLc (aiSeq (aVar 2)) (.nm 7) [7] aYes (aCall sp_disk_of (aCons (aVar 1) (aCons (aVar 7) (aCons (aVar 3) aNil)))))) aNil))) (agName 6))
    (aRet (aTup (aCons (aVar 1) (aCons (aFn acTup (aCons (aVar 6) aNil)) (aCons (aFn acLen (aCons (aVar 6) aNil)) aNil)))))) aNext) (tk_row_need_4)
def tk_row_need_2 : RS := aSeq (aAsg (aFn acAll (aCons (aFz (aLc (aiSeq (aVar 2)) (.nm 7) [7] aYes (aOp aIsNot (aOp aIx (aCast (aVar 4)) (aVar 7)) (aC .non)))) aNil)) (agName 5)) (tk_row_need_3)
def tk_row_need_1 : RS := aSeq (aAsg (aCall sp_row_blocks (aCons (aVar 0) (aCons (aVar 1) aNil))) (agName 4)) (tk_row_need_2)
def t_row_need : RS := aSeq (aAsg (aCall sp_row_width (aCons (aVar 0) (aCons (aVar 1) aNil))) (agName 3)) (tk_row_need_1)
theorem len_row_need : ∀ ds M Q, sp_row_need ds M Q → ds.length = 3 := by
  rintro ds M Q ⟨s, row, pl, ps, rfl, _⟩
  rfl
theorem spec_row_need : ∀ ds M Q, sp_row_need ds M Q → t_row_need (retD Q) (startA 8 ds) M := by
  rintro ds M Q ⟨s, row, p, ps, rfl, ok, hr, hp, hl, h10, ho, k⟩
  have wp := ok.wide_pos row
  have wl := ok.wide_le row
  have wt := ok.wide_ten row
  have rl : ((s.row row).map oD).length = s.wide row := by rw [List.length_map, Store.row_len]
  have pl := dns_len ps
  have e0 : ((s.wide row : Nat) : Int) - ((s.head.par : Nat) : Int) = ((s.wide row - s.head.par : Nat) : Int) := by omega
  have keep : ∀ M', HC.Sub M M' → itemsA (.ref p) M' = some (dnsV ps) := fun M' sb => by simp only [itemsA, sb _ _ hp]
  have any : rowN s row ps = needD s row → (justB s row ps = false) → tk_row_need_4 (retD Q) [some s.d, some (dn row), some (.ref p), some (dn (s.wide row)), some (.tuc ((s.row row).map oD)), some (.bl (rdAll s row ps)), none, none] M := fun e e2 => by
    rw [e] at k
    unfold tk_row_need_4
    decreasing_tactic
    refine ⟨s, row, rfl, ok, hr, ?_, retEnd k⟩
    unfold opnB at ho
    rw [e2] at ho
    exact Nat.le_of_not_lt (of_decide_eq_false (by simpa using ho))
  decreasing_tactic
  refine ⟨s, row, rfl, ?_⟩
  decreasing_tactic
  refine ⟨s, row, rfl, ok, hr, ?_⟩
  decreasing_tactic
  refine lcFk (fun i => .bl ((s.cell ((row + ps.getD i 0) % s.wide row) row).isSome)) keep (by rw [pl]; exact le_line (by omega)) (fun i d hd M' N hs q => ?_) ?_
  · unfold dnsV at hd
    rw [List.getElem?_map] at hd
    obtain ⟨j, hj, rfl⟩ := Option.map_eq_some_iff.mp hd
    have gj : ps.getD i 0 = j := by rw [List.getD_eq_getElem?_getD, hj]; rfl
    rw [gj] at q
    have hj2 := hl j (List.mem_of_getElem? hj)
    have ea : atI ((s.row row).map oD) (j : Int) = some (oD (s.cell ((row + j) % s.wide row) row)) := HC.atI_nat (by
      rw [List.getElem?_map]
      unfold Store.row
      rw [List.getElem?_map, List.getElem?_range hj2]
      rfl)
    refine ⟨_, rfl, ?_⟩
    decreasing_tactic
    ((repeat ((conv => whnf); simp only [lenA_r, itemsA_r, lstA_r, lstC_s, Option.map_some, atI_0, ixN_0, mup_same, mup_mup, true_and, and_true, List.map_cons, List.map_nil, List.length_cons, List.length_map, List.length_nil, List.set_cons_zero, List.set_cons_succ, List.cons_append, List.nil_append, List.getElem?_cons_zero, List.getElem?_cons_succ, ea])); (conv => whnf))
    cases hc : s.cell ((row + j) % s.wide row) row with
    | none =>
      rw [hc] at q
      exact q
    | some b =>
      rw [hc] at q
      exact q
  · rw [pl]
    ((conv => whnf); refine ⟨_, acAll_eq, ?_⟩; rw [all_map_id])
    have ea : ((List.range ps.length).map fun i => (s.cell ((row + ps.getD i 0) % s.wide row) row).isSome) = ps.map fun j => (s.cell ((row + j) % s.wide row) row).isSome := by
      refine List.ext_getElem (by simp) fun i h1 h2 => ?_
      simp at h1
      rw [List.getElem_map, List.getElem_map, List.getElem_range, List.getD_eq_getElem?_getD, List.getElem?_eq_getElem h1]
      rfl
    have eb : (List.range ps.length).all (fun i => (s.cell ((row + ps.getD i 0) % s.wide row) row).isSome) = rdAll s row ps := by
      have := congrArg (fun l : List Bool => l.all id) ea
      simp only [List.all_map] at this
      exact this
    rw [eb]
    decreasing_tactic
    cases c : rdAll s row ps with
    | false =>
      have jb : justB s row ps = false := by unfold justB; rw [c]; rfl
      rw [c] at any
      exact any (by unfold rowN; rw [jb]; rfl) jb
    | true =>
      rw [c] at any
      decreasing_tactic
      by_cases c2 : ps.length < s.wide row - s.head.par
      · have jb : justB s row ps = true := by unfold justB; rw [c, decide_eq_true c2]; rfl
        have k : Q (ndV (row, sortN (rowT s row ps), ps.length)) M := by
          unfold rowN at k
          rw [if_pos jb] at k
          exact k
        rw [decide_eq_true (show (((dnsV ps).length : Nat) : Int) < _ by omega)]
        decreasing_tactic
        refine lcFk (fun i => dn ((row + ps.getD i 0) % s.wide row)) keep (by rw [pl]; exact le_line (by omega)) (fun i d hd M' N hs q => ?_) ?_
        · unfold dnsV at hd
          rw [List.getElem?_map] at hd
          obtain ⟨j, hj, rfl⟩ := Option.map_eq_some_iff.mp hd
          have gj : ps.getD i 0 = j := by rw [List.getD_eq_getElem?_getD, hj]; rfl
          rw [gj] at q
          refine ⟨_, rfl, ?_⟩
          decreasing_tactic
          refine ⟨row, j, s.wide row, rfl, by omega, ?_⟩
          decreasing_tactic
          exact q
        · rw [pl]
          have e3 : (List.range ps.length).map (fun i => dn ((row + ps.getD i 0) % s.wide row)) = dnsV (rowT s row ps) := by
            unfold dnsV rowT
            rw [List.map_map]
            refine List.ext_getElem (by simp) fun i h1 h2 => ?_
            simp at h1
            rw [List.getElem_map, List.getElem_map, List.getElem_range, List.getD_eq_getElem?_getD, List.getElem?_eq_getElem h1]
            rfl
          rw [e3]
          decreasing_tactic
          refine ⟨_, by rw [← dns_ints]; rfl, fun ns' hp hs x hx => ?_⟩
          have e := sortN_cast hp hs
          subst e
          rw [← dns_ints]
          have sl : (dnsV (sortN (rowT s row ps))).length = ps.length := by rw [dns_len, (sortN_perm _).length_eq]; unfold rowT; rw [List.length_map]
          refine fz_new hx ?_
          decreasing_tactic
          rw [sl]
          exact retEnd k
      · have jb : justB s row ps = false := by unfold justB; rw [c, decide_eq_false c2]; rfl
        rw [decide_eq_false (show ¬ (((dnsV ps).length : Nat) : Int) < _ by omega)]
        decreasing_tactic
        exact any (by unfold rowN; rw [jb]; rfl) jb
theorem ok_row_need (T : Tx K mg) : FnA P w K mg base 5 T.f_row_need T.d_row_need [("store" : Str), ("row" : Str), ("places" : Str)] sp_row_need :=
  fnA T.F_row_need sc_row_need len_row_need (fun cdv A outer s H E hr => by
    have hu1 := hu_of hr
    have hu64 := hr.units
    exact (ass_cons (as_set 3 sc_row_need.nd (ae_call (ok_row_width T) (hr.mono (by decide)) T.m_row_width T.F_row_width.kp T.b_row_width (aa_cons (av 0) (aa_cons (av 1) aa_nil))))
    (ass_cons (as_set 4 sc_row_need.nd (ae_call (ok_row_blocks T) (hr.mono (by decide)) T.m_row_blocks T.F_row_blocks.kp T.b_row_blocks (aa_cons (av 0) (aa_cons (av 1) aa_nil))))
    (ass_cons (as_set 5 sc_row_need.nd (ae_callB (cr_all rfl) abc_all (aa_cons (ae_fz (ae_lc (own := [(("place" : Str), 7)]) (tg := (.nm 7)) (by decide) rfl sc_row_need.nd (ai_seq (av 2)) (blkOk_by (own := [(("place" : Str), 7)]) (N := N_row_need) (sc := defScope s_row_need) (by decide +kernel)) (fun _ _ _ _ _ => (pgt_name 7 sc_row_need.nd)) (fun _ _ _ _ _ => ats_nil) (fun _ _ _ _ _ => (ae_isnot (ae_ix hu1 (ae_cast (av 4)) (av 7)) ae_non)))) aa_nil) T.n_all boot_all))
    (ass_cons (as_if (AW.pt (aw_and (at_tru (av 5)) (aw_and1 (at_lt (ae_callB call_len abc_len (aa_cons (av 2) aa_nil) T.n_len boot_len) (ae_sub (av 3) (ae_ix hu1 (ae_ix hu1 (av 0) ae_int) ae_int)))))) (ass_cons (as_set 6 sc_row_need.nd (ae_fz (ae_callB cr_sortedI abc_sortI (aa_cons (ae_fz (ae_lc (own := [(("place" : Str), 7)]) (tg := (.nm 7)) (by decide) rfl sc_row_need.nd (ai_seq (av 2)) (blkOk_by (own := [(("place" : Str), 7)]) (N := N_row_need) (sc := defScope s_row_need) (by decide +kernel)) (fun _ _ _ _ _ => (pgt_name 7 sc_row_need.nd)) (fun _ _ _ _ _ => ats_nil) (fun _ _ _ _ _ => (ae_call (ok_disk_of T) (hr.mono (by decide)) T.m_disk_of T.F_disk_of.kp T.b_disk_of (aa_cons (av 1) (aa_cons (av 7) (aa_cons (av 3) aa_nil))))))) aa_nil) T.n_sorted boot_sorted)))
    (ass_one (as_ret (ae_tup (aa_cons (av 1) (aa_cons (ae_callTy call_tuple_of abc_tup (aa_cons (av 6) aa_nil) T.n_tuple boot_tuple) (aa_cons (ae_callB call_len abc_len (aa_cons (av 6) aa_nil) T.n_len boot_len) aa_nil))))))) ass_nil)
    (ass_one (as_ret (ae_call (ok_any_need T) (hr.mono (by decide)) T.m_any_need T.F_any_need.kp T.b_any_need (aa_cons (av 0) (aa_cons (av 1) aa_nil)))))))))) spec_row_need
def sp_spot_of : ASp := fun ds M Q => ∃ block width par : Nat, ds = [dn block, dn width, dn par] ∧ par < width ∧ width ≤ 1000 ∧ Q (.tup [dn (block / (width - par)), dn (block % (width - par))]) M
def tk_spot_of_1 : RS := (aRet (aTup (aCons (aOp aDiv (aVar 0) (aVar 3)) (aCons (aOp aMod (aVar 0) (aVar 3)) aNil))))
def t_spot_of : RS := aSeq (aAsg (aOp aSub (aVar 1) (aVar 2)) (agName 3)) (tk_spot_of_1)
theorem len_spot_of : ∀ ds M Q, sp_spot_of ds M Q → ds.length = 3 := by
  rintro ds M Q ⟨b, w, p, rfl, _⟩
  rfl
theorem spec_spot_of : ∀ ds M Q, sp_spot_of ds M Q → t_spot_of (retD Q) (startA 4 ds) M := by
  rintro ds M Q ⟨b, w, p, rfl, h, hw, k⟩
  have e : (w : Int) - (p : Int) = ((w - p : Nat) : Int) := (Int.ofNat_sub (by omega)).symm
  have e1 : (b : Int) / ((w : Int) - (p : Int)) = ((b / (w - p) : Nat) : Int) := by rw [e]; rfl
  have e2 : (b : Int) % ((w : Int) - (p : Int)) = ((b % (w - p) : Nat) : Int) := by rw [e]; rfl
  simp only [dn, ← e1, ← e2] at k
  (conv => whnf)
  refine ⟨⟨by omega, by omega⟩, ?_⟩
  (conv => whnf)
  refine ⟨by omega, ?_⟩
  (conv => whnf)
  refine ⟨show 2 ≤ sizeLine by decide, ?_⟩
  exact retEnd k
theorem ok_spot_of (T : Tx K mg) : FnA P w K mg base 1 T.f_spot_of T.d_spot_of [("block" : Str), ("width" : Str), ("parities" : Str)] sp_spot_of :=
  fnA T.F_spot_of sc_spot_of len_spot_of (fun cdv A outer s H E hr => by
    have hu1 := hu_of hr
    have hu64 := hr.units
    exact (ass_cons (as_set 3 sc_spot_of.nd (ae_sub (av 1) (av 2)))
    (ass_one (as_ret (ae_tup (aa_cons (ae_div (av 0) (av 3)) (aa_cons (ae_mod (av 0) (av 3)) aa_nil))))))) spec_spot_of
def sp_spot_now : ASp := fun ds M Q => ∃ s : Store, ∃ n : Nat, ds = [s.d, dn n] ∧ s.Ok ∧ Q (spD (s.spotN n)) M
def tk_spot_now_3 : RS := (aRet (aCall sp_spot_of (aCons (aVar 1) (aCons (aVar 5) (aCons (aVar 2) aNil)))))
def tk_spot_now_2 : RS := aSeq (aIfS (aB (aOp aLt (aOp aIx (aVar 8) (aC (.int 0))) (aVar 6))) (aRet (aVar 8)) aNext) (tk_spot_now_3)
def tk_spot_now_1 : RS := aSeq (aAsg (aCall sp_spot_of (aCons (aVar 1) (aCons (aOp aAdd (aVar 5) (aC (.int 1))) (aCons (aVar 2) aNil)))) (agName 8)) (tk_spot_now_2)
def t_spot_now : RS := aSeq (aAsg (aOp aIx (aVar 0) (aC (.int 0))) (agTup 6 (agCons (agName 2) (agCons (agName 3) (agCons (agName 4) (agCons (agName 5) (agCons (agName 6) (agCons (agName 7) agNil)))))))) (tk_spot_now_1)
theorem len_spot_now : ∀ ds M Q, sp_spot_now ds M Q → ds.length = 2 := by
  rintro ds M Q ⟨s, n, rfl, _⟩
  rfl
theorem spec_spot_now : ∀ ds M Q, sp_spot_now ds M Q → t_spot_now (retD Q) (startA 9 ds) M := by
  rintro ds M Q ⟨s, n, rfl, ok, k⟩
  have w1 := ok.head.width1
  have w2 := ok.head.width2
  unfold Store.spotN at k
  decreasing_tactic
  refine ⟨n, s.head.width + 1, s.head.par, rfl, by omega, by omega, ?_⟩
  decreasing_tactic
  by_cases h : n / (s.head.width + 1 - s.head.par) < s.head.moved
  · rw [if_pos h] at k
    refine onIf_decT (show ((n / (s.head.width + 1 - s.head.par) : Nat) : Int) < _ by omega) ?_
    exact retEnd k
  · rw [if_neg h] at k
    refine onIf_decF (show ¬ ((n / (s.head.width + 1 - s.head.par) : Nat) : Int) < _ by omega) ?_
    decreasing_tactic
    refine ⟨n, s.head.width, s.head.par, rfl, by omega, by omega, ?_⟩
    exact retEnd k
theorem ok_spot_now (T : Tx K mg) : FnA P w K mg base 2 T.f_spot_now T.d_spot_now [("store" : Str), ("block" : Str)] sp_spot_now :=
  fnA T.F_spot_now sc_spot_now len_spot_now (fun cdv A outer s H E hr => by
    have hu1 := hu_of hr
    have hu64 := hr.units
    exact (ass_cons (as_asg (ae_ix hu1 (av 0) ae_int) (ag_tup rfl (ags_cons (ag_name 2 sc_spot_now.nd) (ags_cons (ag_name 3 sc_spot_now.nd) (ags_cons (ag_name 4 sc_spot_now.nd) (ags_cons (ag_name 5 sc_spot_now.nd) (ags_cons (ag_name 6 sc_spot_now.nd) (ags_cons (ag_name 7 sc_spot_now.nd) ags_nil))))))))
    (ass_cons (as_set 8 sc_spot_now.nd (ae_call (ok_spot_of T) (hr.mono (by decide)) T.m_spot_of T.F_spot_of.kp T.b_spot_of (aa_cons (av 1) (aa_cons (ae_add (av 5) ae_int) (aa_cons (av 2) aa_nil)))))
    (ass_cons (as_if (at_lt (ae_ix hu1 (av 8) ae_int) (av 6)) (ass_one (as_ret (av 8))) ass_nil)
    (ass_one (as_ret (ae_call (ok_spot_of T) (hr.mono (by decide)) T.m_spot_of T.F_spot_of.kp T.b_spot_of (aa_cons (av 1) (aa_cons (av 5) (aa_cons (av 2) aa_nil)))))))))) spec_spot_now
def sp_wanted_places : ASp := fun ds M Q => ∃ s : Store, ∃ bs : List Nat, ds = [s.d, .tup (dnsV bs)] ∧ s.Ok ∧ bs.Pairwise (· < ·) ∧ (∀ b ∈ bs, b < s.kept) ∧
  ∀ f as M', GW (fun _ j => j) M' f (s.grn bs) as → HC.Sub M M' → M f = none → Q (.ref f) M'
def tk_wanted_places_2 : RS := (aRet (aVar 2))
def tk_wanted_places_1 : RS := aSeq (aFor (aiSeq (aVar 1)) (agName 3) (aSeq (aAsg (aCall sp_spot_now (aCons (aVar 0) (aCons (aVar 3) aNil))) (agTup 2 (agCons (agName 4) (agCons (agName 5) agNil))))
    (aDrop (aMth "list" amApp (aSetd (aVar 2) (aVar 4) (aLst aNil)) (aCons (aVar 5) aNil))))) (tk_wanted_places_2)
def t_wanted_places : RS := aSeq (aAsg aDnew (agName 2)) (tk_wanted_places_1)
theorem len_wanted_places : ∀ ds M Q, sp_wanted_places ds M Q → ds.length = 2 := by
  rintro ds M Q ⟨s, bs, rfl, _⟩
  rfl
theorem spec_wanted_places : ∀ ds M Q, sp_wanted_places ds M Q → t_wanted_places (retD Q) (startA 6 ds) M := by
  rintro ds M Q ⟨s, bs, rfl, ok, hp, hk, k⟩
  decreasing_tactic
  intro f hf
  decreasing_tactic
  refine forW_inv (fun i ρ M' => ∃ as x3 x4 x5, ρ = [some s.d, some (.tup (dnsV bs)), some (.ref f), x3, x4, x5] ∧ GW (fun _ j => j) M' f (s.grn (bs.take i)) as ∧ HC.Sub M M' ∧ ∀ b ∈ as, M b = none) ⟨[], none, none, none, rfl, ⟨rfl, .nil, (fun h => by cases h), mup_same, (fun i x a e => by cases e)⟩, Sub.new hf, fun b hb => by cases hb⟩ (fun _ _ _ _ _ => rfl) ?_ ?_
  · rintro i d ρ M2 hi ⟨as, x3, x4, x5, rfl, gm, hs, hfr⟩
    unfold dnsV at hi
    rw [List.getElem?_map] at hi
    obtain ⟨b, hb, rfl⟩ := Option.map_eq_some_iff.mp hi
    decreasing_tactic
    refine ⟨s, b, rfl, ok, ?_⟩
    generalize hsp : s.spotN b = rp
    obtain ⟨rr, pl⟩ := rp
    decreasing_tactic
    refine ⟨⟨_, gm.f⟩, ?_⟩
    decreasing_tactic
    intro p hp2
    obtain ⟨l1, f3, st⟩ := gm.step (i := i) ok hp hk hb hsp hs hf hfr hp2
    generalize mup M2 p (.lst []) = M3 at f3 st ⊢
    rcases st with ⟨k1, L, k2, pf, as', g1, g2, g3⟩ | ⟨c, l, k1, hc, ll, as', g1, g2, g3⟩
    · ((repeat ((conv => whnf); simp only [lenA_r, itemsA_r, lstA_r, lstC_s, Option.map_some, atI_0, ixN_0, mup_same, mup_mup, true_and, and_true, List.map_cons, List.map_nil, List.length_cons, List.length_map, List.length_nil, List.set_cons_zero, List.set_cons_succ, List.cons_append, List.nil_append, List.getElem?_cons_zero, List.getElem?_cons_succ, f3])); (conv => whnf))
      refine ⟨l1, ?_⟩
      rw [k1]
      decreasing_tactic
      rw [k2]
      decreasing_tactic
      ((repeat ((conv => whnf); simp only [lenA_r, itemsA_r, lstA_r, lstC_s, Option.map_some, atI_0, ixN_0, mup_same, mup_mup, true_and, and_true, List.map_cons, List.map_nil, List.length_cons, List.length_map, List.length_nil, List.set_cons_zero, List.set_cons_succ, List.cons_append, List.nil_append, List.getElem?_cons_zero, List.getElem?_cons_succ, pf])); (conv => whnf))
      exact wk_of ⟨as', _, _, _, rfl, g1, g2, g3⟩
    · ((repeat ((conv => whnf); simp only [lenA_r, itemsA_r, lstA_r, lstC_s, Option.map_some, atI_0, ixN_0, mup_same, mup_mup, true_and, and_true, List.map_cons, List.map_nil, List.length_cons, List.length_map, List.length_nil, List.set_cons_zero, List.set_cons_succ, List.cons_append, List.nil_append, List.getElem?_cons_zero, List.getElem?_cons_succ, f3])); (conv => whnf))
      refine ⟨l1, ?_⟩
      rw [k1]
      decreasing_tactic
      ((repeat ((conv => whnf); simp only [lenA_r, itemsA_r, lstA_r, lstC_s, Option.map_some, atI_0, ixN_0, mup_same, mup_mup, true_and, and_true, List.map_cons, List.map_nil, List.length_cons, List.length_map, List.length_nil, List.set_cons_zero, List.set_cons_succ, List.cons_append, List.nil_append, List.getElem?_cons_zero, List.getElem?_cons_succ, hc])); (conv => whnf))
      exact wk_of ⟨as', _, _, _, rfl, g1, g2, g3⟩
  · rintro ρ M2 ⟨as, x3, x4, x5, rfl, gm, hs, hfr⟩
    rw [dns_len, List.take_length] at gm
    decreasing_tactic
    exact retEnd (k f as M2 gm hs hf)
theorem ok_wanted_places (T : Tx K mg) : FnA P w K mg base 3 T.f_wanted_places T.d_wanted_places [("store" : Str), ("wanted" : Str)] sp_wanted_places :=
  fnA T.F_wanted_places sc_wanted_places len_wanted_places (fun cdv A outer s H E hr => by
    have hu1 := hu_of hr
    have hu64 := hr.units
    exact (ass_cons (as_set 2 sc_wanted_places.nd ae_dnew)
    (ass_cons (as_for PassesOwn.never rfl (ai_seq (av 1)) (ag_name 3 sc_wanted_places.nd) (ass_cons (as_asg (ae_call (ok_spot_now T) (hr.mono (by decide)) T.m_spot_now T.F_spot_now.kp T.b_spot_now (aa_cons (av 0) (aa_cons (av 3) aa_nil))) (ag_tup rfl (ags_cons (ag_name 4 sc_wanted_places.nd) (ags_cons (ag_name 5 sc_wanted_places.nd) ags_nil))))
    (ass_one (as_expr (ae_append (ae_setd (av 2) (av 4) (ae_lst aa_nil) ⟨rfl, rfl, rfl, rfl⟩) (aa_cons (av 5) aa_nil))))))
    (ass_one (as_ret (av 2)))))) spec_wanted_places
def sp_read_needs : ASp := fun ds M Q => ∃ s : Store, ∃ bs : List Nat, ds = [s.d, .tup (dnsV bs)] ∧ s.Ok ∧ s.journal = [] ∧ bs.Pairwise (· < ·) ∧ (∀ b ∈ bs, b < s.kept) ∧ CanRd s bs ∧ Q (ndsV (readN s bs)) M
def tk_read_needs_2 : RS := (aRet (aFz (aLc (aiSeq (aFz (aFn acSortDI (aCons (aVar 2) aNil)))) (.nm 3) [3] aYes (aCall sp_row_need (aCons (aVar 0) (aCons (aVar 3) (aCons (aOp aIxD (aVar 2) (aVar 3)) aNil)))))))
def tk_read_needs_1 : RS := aSeq (aAsg (aCall sp_wanted_places (aCons (aVar 0) (aCons (aVar 1) aNil))) (agName 2)) (tk_read_needs_2)
def t_read_needs : RS := aSeq (aDrop (aCall sp_look_wanted (aCons (aVar 0) (aCons (aVar 1) aNil)))) (tk_read_needs_1)
theorem len_read_needs : ∀ ds M Q, sp_read_needs ds M Q → ds.length = 2 := by
  rintro ds M Q ⟨s, bs, rfl, _⟩
  rfl
theorem spec_read_needs : ∀ ds M Q, sp_read_needs ds M Q → t_read_needs (retD Q) (startA 4 ds) M := by
  rintro ds M Q ⟨s, bs, rfl, ok, hj, hp, hk, hc, k⟩
  have bl := asc_kept ok hp hk
  decreasing_tactic
  refine ⟨s, bs, rfl, ok, hj, by omega, hk, ?_⟩
  decreasing_tactic
  refine ⟨s, bs, rfl, ok, hp, hk, fun f as M2 gm hs hf => ?_⟩
  obtain ⟨rp, gok⟩ := grn_fin ok hp
  have er := grn_rows ok hp hk
  have glb := grn_le (s := s) bs
  generalize s.grn bs = g at gm gok er glb
  have g5 : dicA M2 (.ref f) = some (grD g as) := by simp only [dicA, gm.f]
  decreasing_tactic
  ((repeat ((conv => whnf); simp only [lenA_r, itemsA_r, lstA_r, lstC_s, Option.map_some, atI_0, ixN_0, mup_same, mup_mup, true_and, and_true, List.map_cons, List.map_nil, List.length_cons, List.length_map, List.length_nil, List.set_cons_zero, List.set_cons_succ, List.cons_append, List.nil_append, List.getElem?_cons_zero, List.getElem?_cons_succ, g5])); (conv => whnf))
  refine ⟨g.map fun x => (x.1 : Int), grD_fst gm.len, fun ns' hp hso p hpn => fz_new hpn ?_⟩
  have e0 : g.map (fun x => (x.1 : Int)) = (g.map (·.1)).map fun n : Nat => (n : Int) := by rw [List.map_map]; rfl
  rw [e0] at hp
  have e1 := sorted_nats hp hso gok.up
  subst e1
  have e2 : ((g.map (·.1)).map fun n : Nat => (n : Int)).map Dv.int = g.map fun x => dn x.1 := by rw [List.map_map, List.map_map]; rfl
  rw [e2]
  decreasing_tactic
  have gL : (g.map fun x => dn x.1).length = g.length := List.length_map _
  have kL := gm.len
  refine lcFk (fun i => ndV (rowN s ((rowsW s bs).getD i (0, [])).1 ((rowsW s bs).getD i (0, [])).2)) (fun _ _ => rfl) (le_line (by rw [gL]; omega)) (fun i d hi M' N hs3 hN => ?_) ?_
  · rw [List.getElem?_map] at hi
    obtain ⟨x, hx, rfl⟩ := Option.map_eq_some_iff.mp hi
    have il := (List.getElem?_eq_some_iff.mp hx).1
    have hw : (rowsW s bs)[i]? = some (x.1, x.2.map (·.1)) := by rw [← er, List.getElem?_map, hx]; rfl
    have hw2 := List.mem_of_getElem? hw
    obtain ⟨h1, h2, h3⟩ := rwW_mem hw2
    rw [show (rowsW s bs).getD i (0, []) = (x.1, x.2.map (·.1)) by rw [List.getD_eq_getElem?_getD, hw]; rfl] at hN
    obtain ⟨a, ha⟩ : ∃ a, as[i]? = some a := ⟨_, List.getElem?_eq_getElem (by omega)⟩
    have f5 : M' f = some (.dic (grD g as)) := hs3 _ _ gm.f
    have f6 : dicA M' (.ref f) = some (grD g as) := by simp only [dicA, f5]
    have k1 : getK (grD g as) (.inl (x.1 : Int)) = some (.ref a) := grD_get gok.up gm.len hx ha
    have hA := hs3 _ _ (gm.c i x a hx ha)
    have eT : tellW (fun _ j => j) x = dnsV (x.2.map (·.1)) := by unfold tellW dnsV; rw [List.map_map]; rfl
    rw [eT] at hA
    have h2 : x.2.map (·.1) = plR s bs x.1 := h2
    have wt := ok.wide_ten x.1
    have pl := plR_len (s := s) bs x.1
    refine ⟨_, rfl, ?_⟩
    decreasing_tactic
    ((repeat ((conv => whnf); simp only [lenA_r, itemsA_r, lstA_r, lstC_s, Option.map_some, atI_0, ixN_0, mup_same, mup_mup, true_and, and_true, List.map_cons, List.map_nil, List.length_cons, List.length_map, List.length_nil, List.set_cons_zero, List.set_cons_succ, List.cons_append, List.nil_append, List.getElem?_cons_zero, List.getElem?_cons_succ, f6, k1])); (conv => whnf))
    refine ⟨s, x.1, a, _, rfl, ok, h1, hA, fun j hj => ?_, ?_, hc _ hw2, hN⟩
    · rw [h2] at hj
      exact plR_wide hj
    · rw [h2]; omega
  · rw [gL]
    have e3 : (List.range g.length).map (fun i => ndV (rowN s ((rowsW s bs).getD i (0, [])).1 ((rowsW s bs).getD i (0, [])).2)) = (readN s bs).map ndV := by
      have gl : g.length = (rowsW s bs).length := by rw [← er, List.length_map]
      unfold readN
      rw [gl]
      refine List.ext_getElem (by simp) fun i h1 h2 => ?_
      simp at h1
      rw [List.getElem_map, List.getElem_range, List.getElem_map, List.getElem_map, List.getD_eq_getElem?_getD, List.getElem?_eq_getElem h1]
      rfl
    rw [e3]
    refine retSub hs ?_
    exact k
theorem ok_read_needs (T : Tx K mg) : FnA P w K mg base 6 T.f_read_needs T.d_read_needs [("store" : Str), ("wanted" : Str)] sp_read_needs :=
  fnA T.F_read_needs sc_read_needs len_read_needs (fun cdv A outer s H E hr => by
    have hu1 := hu_of hr
    have hu64 := hr.units
    exact (ass_cons (as_expr (ae_call (ok_look_wanted T) (hr.mono (by decide)) T.m_look_wanted T.F_look_wanted.kp T.b_look_wanted (aa_cons (av 0) (aa_cons (av 1) aa_nil))))
    (ass_cons (as_set 2 sc_read_needs.nd (ae_call (ok_wanted_places T) (hr.mono (by decide)) T.m_wanted_places T.F_wanted_places.kp T.b_wanted_places (aa_cons (av 0) (aa_cons (av 1) aa_nil))))
    (ass_one (as_ret (ae_fz (ae_lc (own := [(("row" : Str), 3)]) (tg := (.nm 3)) (by decide) rfl sc_read_needs.nd (ai_seq (ae_fz (ae_callB (cr_sortedDI rfl) abc_sortDI (aa_cons (av 2) aa_nil) T.n_sorted boot_sorted))) (blkOk_by (own := [(("row" : Str), 3)]) (N := N_read_needs) (sc := defScope s_read_needs) (by decide +kernel)) (fun _ _ _ _ _ => (pgt_name 3 sc_read_needs.nd)) (fun _ _ _ _ _ => ats_nil) (fun _ _ _ _ _ => (ae_call (ok_row_need T) (hr.mono (by decide)) T.m_row_need T.F_row_need.kp T.b_row_need (aa_cons (av 0) (aa_cons (av 3) (aa_cons (ae_ixD hu1 (av 2) (av 3)) aa_nil)))))))))))) spec_read_needs
def sp_Spread___init__ : ASp := fun ds M Q => ∃ M0 p N w, ds = [.ref p, ndsV N, dn w] ∧ Sub M0 M ∧ M0 p = none ∧ M p = some (.obj ("Spread" : Str) []) ∧ NdOk N w ∧ SzOk N w ∧ ∀ M' lr lo as, SpAt M0 M' p lr lo as N (initS N w) → Q .non M'
def tk_Spread___init___3 : RS := (aFor (aiSeq (aVar 1)) (agTup 3 (agCons (agName 3) (agCons (agName 4) (agCons (agName 5) agNil)))) (aSeq (aAsg (aFz (aSl (aFz (aFn acSortP (aCons (aFz (aLc (aiSeq (aVar 4)) (.nm 8) [8] aYes (aTup (aCons (aOp aIx (aFld ("Spread" : Str) ("loads" : Str) (aVar 0)) (aVar 8)) (aCons (aVar 8) aNil))))) aNil))) aoN (aoS (aVar 5)))) (agName 6))
    (aSeq (aDrop (aMth "list" amApp (aFld ("Spread" : Str) ("reads" : Str) (aVar 0)) (aCons (aLc (aiSeq (aVar 6)) (.tp [(.nm 7), (.nm 8)]) [7, 8] aYes (aVar 8)) aNil)))
    (aFor (aiSeq (aVar 6)) (agTup 2 (agCons (agName 7) (agCons (agName 8) agNil))) (aAugS (aFld ("Spread" : Str) ("loads" : Str) (aVar 0)) (aVar 8) (aC (.int 1)) fun i j => i + j)))))
def tk_Spread___init___2 : RS := aSeq (asFld ("Spread" : Str) ("loads" : Str) (aVar 0) (aOp aMul (aLst (aCons (aC (.int 0)) aNil)) (aVar 2))) (tk_Spread___init___3)
def tk_Spread___init___1 : RS := aSeq (asFld ("Spread" : Str) ("reads" : Str) (aVar 0) (aLst aNil)) (tk_Spread___init___2)
def t_Spread___init__ : RS := aSeq (asFld ("Spread" : Str) ("needs" : Str) (aVar 0) (aVar 1)) (tk_Spread___init___1)
theorem len_Spread___init__ : ∀ ds M Q, sp_Spread___init__ ds M Q → ds.length = 3 := by
  rintro ds M Q ⟨M0, p, N, w, rfl, _⟩
  rfl
theorem spec_Spread___init__ : ∀ ds M Q, sp_Spread___init__ ds M Q → t_Spread___init__ (retD Q) (startA 9 ds) M := by
  rintro ds M Q ⟨M0, p, N, w, rfl, sb, p0, hp, ok, sz, k⟩
  have e1 := objC_l hp
  decreasing_tactic
  ((repeat ((conv => whnf); simp only [lenA_r, itemsA_r, lstA_r, lstC_s, Option.map_some, atI_0, ixN_0, mup_same, mup_mup, true_and, and_true, List.map_cons, List.map_nil, List.length_cons, List.length_map, List.length_nil, List.set_cons_zero, List.set_cons_succ, List.cons_append, List.nil_append, List.getElem?_cons_zero, List.getElem?_cons_succ, e1])); (conv => whnf))
  refine ⟨by decide, ?_⟩
  rw [sp_put0]
  have hp1 : mup M p (.obj ("Spread" : Str) [(("needs" : Str), ndsV N)]) p = some (.obj ("Spread" : Str) [(("needs" : Str), ndsV N)]) := mup_same
  have s1 : Sub M0 (mup M p (.obj ("Spread" : Str) [(("needs" : Str), ndsV N)])) := sb.mut p0
  generalize mup M p (.obj ("Spread" : Str) [(("needs" : Str), ndsV N)]) = M1 at hp1 s1 ⊢
  decreasing_tactic
  intro lr hlr
  have n1 : p ≠ lr := ne_of_new hp1 hlr
  have hp2 : mup M1 lr (.lst []) p = some (.obj ("Spread" : Str) [(("needs" : Str), ndsV N)]) := (mup_ne n1).trans hp1
  have e2 := objC_l hp2
  ((repeat ((conv => whnf); simp only [lenA_r, itemsA_r, lstA_r, lstC_s, Option.map_some, atI_0, ixN_0, mup_same, mup_mup, true_and, and_true, List.map_cons, List.map_nil, List.length_cons, List.length_map, List.length_nil, List.set_cons_zero, List.set_cons_succ, List.cons_append, List.nil_append, List.getElem?_cons_zero, List.getElem?_cons_succ, e2])); (conv => whnf))
  refine ⟨by decide, ?_⟩
  rw [sp_put1]
  have a1 : M0 lr = none := s1.free hlr
  have s2 : Sub M0 (mup (mup M1 lr (.lst [])) p (.obj ("Spread" : Str) [(("needs" : Str), ndsV N), (("reads" : Str), .ref lr)])) := (s1.mut a1).mut p0
  have hp3 : mup (mup M1 lr (.lst [])) p (.obj ("Spread" : Str) [(("needs" : Str), ndsV N), (("reads" : Str), .ref lr)]) p = some (.obj ("Spread" : Str) [(("needs" : Str), ndsV N), (("reads" : Str), .ref lr)]) := mup_same
  have hr3 : mup (mup M1 lr (.lst [])) p (.obj ("Spread" : Str) [(("needs" : Str), ndsV N), (("reads" : Str), .ref lr)]) lr = some (.lst []) := (mup_ne n1.symm).trans mup_same
  generalize mup (mup M1 lr (.lst [])) p (.obj ("Spread" : Str) [(("needs" : Str), ndsV N), (("reads" : Str), .ref lr)]) = M2 at s2 hp3 hr3 ⊢
  decreasing_tactic
  intro l0 h0
  decreasing_tactic
  ((repeat ((conv => whnf); simp only [lenA_r, itemsA_r, lstA_r, lstC_s, Option.map_some, atI_0, ixN_0, mup_same, mup_mup, true_and, and_true, List.map_cons, List.map_nil, List.length_cons, List.length_map, List.length_nil, List.set_cons_zero, List.set_cons_succ, List.cons_append, List.nil_append, List.getElem?_cons_zero, List.getElem?_cons_succ])); (conv => whnf))
  refine ⟨_, rfl, by have := sz.2.1; omega, by omega, le_line (by have := sz.2.1; rw [Int.toNat_natCast, List.length_singleton]; omega), ?_⟩
  intro lo h1
  have er : (List.replicate (w : Int).toNat [Dv.int 0]).flatten = dnsV (List.replicate w 0) := by
    rw [Int.toNat_natCast]
    unfold dnsV
    rw [List.map_replicate]
    generalize w = m
    induction m with
    | zero => rfl
    | succ m ih => rw [List.replicate_succ, List.replicate_succ, List.flatten_cons, ih]; rfl
  rw [er]
  have n0 : l0 ≠ lo := ne_of_new mup_same h1
  rw [mup_ne n0.symm] at h1
  have s3 : Sub M2 (mup (mup M2 l0 (.lst [Dv.int 0])) lo (.lst (dnsV (List.replicate w 0)))) := (Sub.new h0).mut h1
  have o3 : mup (mup M2 l0 (.lst [Dv.int 0])) lo (.lst (dnsV (List.replicate w 0))) lo = some (.lst (dnsV (List.replicate w 0))) := mup_same
  have n2 : p ≠ lo := ne_of_new hp3 h1
  have n3 : lr ≠ lo := ne_of_new hr3 h1
  have a2 : M0 lo = none := s2.free h1
  generalize mup (mup M2 l0 (.lst [Dv.int 0])) lo (.lst (dnsV (List.replicate w 0))) = M3 at s3 o3 ⊢
  have e3 := objC_l (s3 _ _ hp3)
  ((repeat ((conv => whnf); simp only [lenA_r, itemsA_r, lstA_r, lstC_s, Option.map_some, atI_0, ixN_0, mup_same, mup_mup, true_and, and_true, List.map_cons, List.map_nil, List.length_cons, List.length_map, List.length_nil, List.set_cons_zero, List.set_cons_succ, List.cons_append, List.nil_append, List.getElem?_cons_zero, List.getElem?_cons_succ, e3])); (conv => whnf))
  refine ⟨by decide, ?_⟩
  rw [sp_put2]
  have hs0 : SpAt M0 (mup M3 p (.obj ("Spread" : Str) [(("needs" : Str), ndsV N), (("reads" : Str), .ref lr), (("loads" : Str), .ref lo)])) p lr lo [] N ⟨[], List.replicate w 0⟩ :=
    ⟨(s2.trans s3).mut p0, p0, a1, a2, (fun a ha => by cases ha), n3, (fun a ha => by cases ha), List.nodup_nil, rfl, mup_same, (mup_ne n1.symm).trans (s3 _ _ hr3), (mup_ne n2.symm).trans o3, fun i a r h => by cases h⟩
  generalize mup M3 p (.obj ("Spread" : Str) [(("needs" : Str), ndsV N), (("reads" : Str), .ref lr), (("loads" : Str), .ref lo)]) = M4 at hs0 ⊢
  decreasing_tactic
  refine forW_inv (fun i ρ M' => ∃ as x3 x4 x5 x6 x7 x8, ρ = [some (.ref p), some (ndsV N), some (dn w), x3, x4, x5, x6, x7, x8] ∧ SpAt M0 M' p lr lo as N (initS (N.take i) w)) ⟨[], none, none, none, none, none, none, rfl, by rw [List.take_zero]; exact hs0⟩ (fun _ _ _ _ _ => rfl) ?_ ?_
  · rintro i d ρ M' hi ⟨as, x3, x4, x5, x6, x7, x8, rfl, hs⟩
    rw [List.getElem?_map] at hi
    obtain ⟨n, hn, rfl⟩ := Option.map_eq_some_iff.mp hi
    have I := init_ok ok i
    have et : initS (N.take (i + 1)) w = addS (initS (N.take i) w) n := by
      rw [List.take_succ, hn]
      exact init_snoc _ _ _
    rw [et]
    obtain ⟨ndup, dw, mn⟩ := ok.nd n (List.mem_of_getElem? hn)
    have dl : n.2.1.length ≤ w := by
      have := List.Nodup.length_le_of_subset ndup (l₂ := List.range w) fun x hx => List.mem_range.mpr (dw x hx)
      rw [List.length_range] at this
      exact this
    have rl : (initS (N.take i) w).reads.length ≤ 1000 := by
      rw [I.rl]
      have := List.length_take_le i N
      have := sz.2.2
      have := List.length_take_le' i N
      omega
    generalize initS (N.take i) w = S at hs I rl ⊢
    decreasing_tactic
    refine lcFk (fun j => prI (((S.loads.getD (n.2.1.getD j 0) 0 : Nat) : Int), ((n.2.1.getD j 0 : Nat) : Int))) (fun _ _ => rfl) (by rw [List.length_map]; exact le_line (by have := sz.2.1; omega)) (fun j d hd M1 N1 s1 q => ?_) ?_
    · rw [List.getElem?_map] at hd
      obtain ⟨x, hx, rfl⟩ := Option.map_eq_some_iff.mp hd
      have ex : n.2.1.getD j 0 = x := by rw [List.getD_eq_getElem?_getD, hx]; rfl
      rw [ex] at q
      have xw : x < S.loads.length := by rw [I.ll]; exact dw x (List.mem_of_getElem? hx)
      have g1 := dns_at xw
      have o1 := objC_l (s1 _ _ hs.hp)
      have o2 := s1 _ _ hs.ho
      refine ⟨_, rfl, ?_⟩
      decreasing_tactic
      ((repeat ((conv => whnf); simp only [lenA_r, itemsA_r, lstA_r, lstC_s, Option.map_some, atI_0, ixN_0, mup_same, mup_mup, true_and, and_true, List.map_cons, List.map_nil, List.length_cons, List.length_map, List.length_nil, List.set_cons_zero, List.set_cons_succ, List.cons_append, List.nil_append, List.getElem?_cons_zero, List.getElem?_cons_succ, o1, (sp_lk N lr lo).2.2, o2, g1])); (conv => whnf))
      exact ⟨by decide, q⟩
    · rw [List.length_map]
      have ef : (List.range n.2.1.length).map (fun j => prI (((S.loads.getD (n.2.1.getD j 0) 0 : Nat) : Int), ((n.2.1.getD j 0 : Nat) : Int))) = ((n.2.1.map fun d => (S.loads.getD d 0, d)).map fun y => ((y.1 : Int), (y.2 : Int))).map prI := by
        rw [List.map_map, List.map_map]
        refine List.ext_getElem (by simp) fun j h1 h2 => ?_
        have hj : j < n.2.1.length := by simpa using h1
        rw [List.getElem_map, List.getElem_map, List.getElem_range, List.getD_eq_getElem?_getD (l := n.2.1), List.getElem?_eq_getElem hj]
        rfl
      rw [ef]
      decreasing_tactic
      refine ⟨_, rfl, fun ps' hp hs' x hx => ?_⟩
      have e := sortP_cast hp hs'
      subst e
      refine fz_new hx ?_
      have i3 := idle_ok (loads := S.loads) ndup mn
      have ei : cutA (((sortP (n.2.1.map fun d => (S.loads.getD d 0, d))).map fun y => ((y.1 : Int), (y.2 : Int))).map prI) none (some (n.2.2 : Int)) = (idleS S.loads n).map fun y => prI ((y.1 : Int), (y.2 : Int)) := by
        rw [c_to _ _ (by rw [List.length_map, List.length_map, (sortP_perm _).length_eq, List.length_map]; exact mn), List.map_map, ← List.map_take]
        rfl
      have o1 := objC_l hs.hp
      have o2 := hs.hr
      have ad : addS S n = ⟨S.reads ++ [(idleS S.loads n).map (·.2)], bumpS S.loads ((idleS S.loads n).map (·.2))⟩ := rfl
      rw [ad]
      decreasing_tactic
      rw [ei]
      generalize idleS S.loads n = L at i3 ⊢
      have ll : L.length ≤ w := by
        have := i3.2.2
        rw [List.length_map] at this
        omega
      ((repeat ((conv => whnf); simp only [lenA_r, itemsA_r, lstA_r, lstC_s, Option.map_some, atI_0, ixN_0, mup_same, mup_mup, true_and, and_true, List.map_cons, List.map_nil, List.length_cons, List.length_map, List.length_nil, List.set_cons_zero, List.set_cons_succ, List.cons_append, List.nil_append, List.getElem?_cons_zero, List.getElem?_cons_succ, o1, (sp_lk N lr lo).2.1])); (conv => whnf))
      refine ⟨tyM_list o2, ?_⟩
      decreasing_tactic
      refine lcO (fun j => some (dn ((L.map (·.2)).getD j 0))) (fun _ _ => rfl) (by rw [List.length_map]; exact le_line (by have := sz.2.1; omega)) (fun j d hd M1 N1 s1 q => ?_) fun D hD => ?_
      · rw [List.getElem?_map] at hd
        obtain ⟨y, hy, rfl⟩ := Option.map_eq_some_iff.mp hd
        have ey : (L.map (·.2)).getD j 0 = y.2 := by rw [List.getD_eq_getElem?_getD, List.getElem?_map, hy]; rfl
        rw [ey] at q
        refine ⟨_, rfl, ?_⟩
        decreasing_tactic
        exact q
      · rw [List.length_map]
        have ef : (List.range L.length).filterMap (fun j => some (dn ((L.map (·.2)).getD j 0))) = dnsV (L.map (·.2)) := by
          have := fm_idx (L.map (·.2)) (fun x : Nat => some (dn x)) 0
          rw [List.length_map, List.filterMap_eq_map'] at this
          rw [List.filterMap_eq_map'] at this ⊢
          exact this
        rw [ef]
        have hs1 := hs.mono (M' := mup M' D (.lst (dnsV (L.map (·.2))))) (Sub.new hD)
        have dn1 : D ∉ as := fun z => by
          obtain ⟨i, hi, ei⟩ := List.mem_iff_getElem.mp z
          have h1 : as[i]? = some D := by rw [List.getElem?_eq_getElem hi, ei]
          have := hs.ha i D _ h1 (List.getElem?_eq_getElem (by rw [← hs.al]; exact hi))
          rw [hD] at this
          cases this
        have hs2 := hs1.addR (hs.sub.free hD) dn1 (ne_of_new hs.ho hD).symm (ne_of_new hs.hr hD).symm mup_same
        rw [List.map_append] at hs2
        have o4 := hs1.hr
        generalize mup M' D (.lst (dnsV (L.map (·.2)))) = M1 at hs2 o4 ⊢
        (conv => whnf)
        refine onS_of (lstC_l o4) ?_
        have al := hs.al
        decreasing_tactic
        have hs2 : SpAt M0 (mup M1 lr (.lst (as.map (fun a => Dv.ref a) ++ [.ref D]))) p lr lo (as ++ [D]) N ⟨S.reads ++ [L.map (·.2)], S.loads⟩ := hs2
        generalize mup M1 lr (.lst (as.map (fun a => Dv.ref a) ++ [.ref D])) = M2 at hs2 ⊢
        refine forW_inv (fun j ρ M3 => ∃ y7 y8, ρ = [some (.ref p), some (ndsV N), some (dn w), some (dn n.1), some (.tup (n.2.1.map fun d => dn d)), some (dn n.2.2), some (.rol (L.map fun y => prI ((y.1 : Int), (y.2 : Int)))), y7, y8] ∧ SpAt M0 M3 p lr lo (as ++ [D]) N ⟨S.reads ++ [L.map (·.2)], bumpS S.loads ((L.map (·.2)).take j)⟩) ⟨_, _, rfl, hs2⟩ (fun _ _ _ _ _ => rfl) ?_ ?_
        · rintro j d ρ M3 hj ⟨y7, y8, rfl, h3⟩
          rw [List.getElem?_map] at hj
          obtain ⟨y, hy, rfl⟩ := Option.map_eq_some_iff.mp hj
          have yw : y.2 < w := dw _ (i3.2.1 y.2 (List.mem_map.mpr ⟨y, List.mem_of_getElem? hy, rfl⟩))
          have eb : bumpS S.loads ((L.map (·.2)).take (j + 1)) = (bumpS S.loads ((L.map (·.2)).take j)).set y.2 ((bumpS S.loads ((L.map (·.2)).take j)).getD y.2 0 + 1) := by
            rw [List.take_succ, List.getElem?_map, hy]
            unfold bumpS
            rw [show (Option.map (fun x : Nat × Nat => x.2) (some y)).toList = [y.2] from rfl, List.foldl_append]
            rfl
          rw [eb]
          have bl : (bumpS S.loads ((L.map (·.2)).take j)).length = w := (bump_len _ _).trans I.ll
          generalize bumpS S.loads ((L.map (·.2)).take j) = B at h3 bl ⊢
          have p3 := objC_l h3.hp
          have p4 := h3.ho
          have g1 := dns_get (l := B) (i := y.2) (by omega)
          have t1 : Int.toNat (y.2 : Int) = y.2 := Int.toNat_natCast _
          have h4 := h3.setO (B.set y.2 (B.getD y.2 0 + 1))
          decreasing_tactic
          ((repeat ((conv => whnf); simp only [lenA_r, itemsA_r, lstA_r, lstC_s, Option.map_some, atI_0, ixN_0, mup_same, mup_mup, true_and, and_true, List.map_cons, List.map_nil, List.length_cons, List.length_map, List.length_nil, List.set_cons_zero, List.set_cons_succ, List.cons_append, List.nil_append, List.getElem?_cons_zero, List.getElem?_cons_succ, p3, (sp_lk N lr lo).2.2, p4, t1])); (conv => whnf))
          refine ⟨Int.natCast_nonneg _, ?_⟩
          ((repeat ((conv => whnf); simp only [lenA_r, itemsA_r, lstA_r, lstC_s, Option.map_some, atI_0, ixN_0, mup_same, mup_mup, true_and, and_true, List.map_cons, List.map_nil, List.length_cons, List.length_map, List.length_nil, List.set_cons_zero, List.set_cons_succ, List.cons_append, List.nil_append, List.getElem?_cons_zero, List.getElem?_cons_succ, g1, p4])); (conv => whnf))
          refine ⟨by rw [dns_len]; omega, ?_⟩
          have c2 : (dnsV B).set y.2 (.int (((B.getD y.2 0 : Nat) : Int) + 1)) = dnsV (B.set y.2 (B.getD y.2 0 + 1)) := dns_set B y.2 (B.getD y.2 0 + 1)
          rw [c2]
          exact wk_of ⟨_, _, rfl, h4⟩
        · rintro ρ M3 ⟨y7, y8, rfl, h3⟩
          rw [List.length_map, List.take_of_length_le (by rw [List.length_map]; omega)] at h3
          exact wk_of ⟨_, _, _, _, _, _, _, rfl, h3⟩
  · rintro ρ M' ⟨as, x3, x4, x5, x6, x7, x8, rfl, hs⟩
    rw [List.length_map, List.take_length] at hs
    exact ⟨M', Sub.refl _, k M' lr lo as hs⟩
theorem ok_Spread___init__ (T : Tx K mg) : FnA P w K mg base 1 T.f_Spread___init__ T.d_Spread___init__ [("self" : Str), ("needs" : Str), ("width" : Str)] sp_Spread___init__ :=
  fnA T.F_Spread___init__ sc_Spread___init__ len_Spread___init__ (fun cdv A outer s H E hr => by
    have hu1 := hu_of hr
    have hu64 := hr.units
    exact (ass_cons (as_fld T.kl_Spread T.no_Spread_needs (av 0) (av 1))
    (ass_cons (as_fld T.kl_Spread T.no_Spread_reads (av 0) (ae_lst aa_nil))
    (ass_cons (as_fld T.kl_Spread T.no_Spread_loads (av 0) (ae_mul (ae_lst (aa_cons ae_int aa_nil)) (av 2)))
    (ass_one (as_for PassesOwn.never rfl (ai_seq (av 1)) (ag_tup rfl (ags_cons (ag_name 3 sc_Spread___init__.nd) (ags_cons (ag_name 4 sc_Spread___init__.nd) (ags_cons (ag_name 5 sc_Spread___init__.nd) ags_nil)))) (ass_cons (as_set 6 sc_Spread___init__.nd (ae_fz (ae_slice (ae_fz (ae_callB cr_sortedPT abc_sortP (aa_cons (ae_fz (ae_lc (own := [(("disk" : Str), 8)]) (tg := (.nm 8)) (by decide) rfl sc_Spread___init__.nd (ai_seq (av 4)) (blkOk_by (own := [(("disk" : Str), 8)]) (N := N_Spread___init__) (sc := defScope s_Spread___init__) (by decide +kernel)) (fun _ _ _ _ _ => (pgt_name 8 sc_Spread___init__.nd)) (fun _ _ _ _ _ => ats_nil) (fun _ _ _ _ _ => (ae_tup (aa_cons (ae_ix hu1 (ae_fld T.kl_Spread T.no_Spread_loads (av 0)) (av 8)) (aa_cons (av 8) aa_nil)))))) aa_nil) T.n_sorted boot_sorted)) ao_none (ao_some (av 5)))))
    (ass_cons (as_expr (ae_append (ae_fld T.kl_Spread T.no_Spread_reads (av 0)) (aa_cons (ae_lc (own := [(("load" : Str), 7), (("disk" : Str), 8)]) (tg := (.tp [(.nm 7), (.nm 8)])) (by decide) rfl sc_Spread___init__.nd (ai_seq (av 6)) (blkOk_by (own := [(("load" : Str), 7), (("disk" : Str), 8)]) (N := N_Spread___init__) (sc := defScope s_Spread___init__) (by decide +kernel)) (fun _ _ _ _ _ => (pgt_tup rfl (pgts_cons (pgt_name 7 sc_Spread___init__.nd) (pgts_cons (pgt_name 8 sc_Spread___init__.nd) pgts_nil)))) (fun _ _ _ _ _ => ats_nil) (fun _ _ _ _ _ => (av 8))) aa_nil)))
    (ass_one (as_for PassesOwn.never rfl (ai_seq (av 6)) (ag_tup rfl (ags_cons (ag_name 7 sc_Spread___init__.nd) (ags_cons (ag_name 8 sc_Spread___init__.nd) ags_nil))) (ass_one (as_augS_add (ae_fld T.kl_Spread T.no_Spread_loads (av 0)) (av 8) ae_int)))))))))))) spec_Spread___init__
def sp_Spread_busiest : ASp := fun ds M Q => ∃ M0 p lr lo as N S, ds = [.ref p] ∧ SpAt M0 M p lr lo as N S ∧ S.loads ≠ [] ∧ Q (dn (topS S.loads)) M
def t_Spread_busiest : RS := (aRet (aFn acMax (aCons (aFld ("Spread" : Str) ("loads" : Str) (aVar 0)) aNil)))
theorem len_Spread_busiest : ∀ ds M Q, sp_Spread_busiest ds M Q → ds.length = 1 := by
  rintro ds M Q ⟨M0, p, lr, lo, as, N, S, rfl, _⟩
  rfl
theorem spec_Spread_busiest : ∀ ds M Q, sp_Spread_busiest ds M Q → t_Spread_busiest (retD Q) (startA 1 ds) M := by
  rintro ds M Q ⟨M0, p, lr, lo, as, N, S, rfl, h, h0, k⟩
  have e1 := objC_l h.hp
  ((repeat ((conv => whnf); simp only [lenA_r, itemsA_r, lstA_r, lstC_s, Option.map_some, atI_0, ixN_0, mup_same, mup_mup, true_and, and_true, List.map_cons, List.map_nil, List.length_cons, List.length_map, List.length_nil, List.set_cons_zero, List.set_cons_succ, List.cons_append, List.nil_append, List.getElem?_cons_zero, List.getElem?_cons_succ, e1, (sp_lk N lr lo).2.2])); (conv => whnf))
  refine ⟨S.loads.map fun n : Nat => (n : Int), ?_, ?_, ?_⟩
  · rw [← dns_ints]
    exact lstA_l h.ho
  · rw [List.length_map]
    exact List.length_pos_iff.mpr h0
  · intro m hm hy
    obtain ⟨x, hx, rfl⟩ := List.mem_map.mp hm
    have e : x = topS S.loads := Nat.le_antisymm (top_le hx) (Int.ofNat_le.mp (hy _ (List.mem_map.mpr ⟨_, top_mem h0, rfl⟩)))
    rw [e]
    exact retEnd k
theorem ok_Spread_busiest (T : Tx K mg) : FnA P w K mg base 1 T.f_Spread_busiest T.d_Spread_busiest [("self" : Str)] sp_Spread_busiest :=
  fnA T.F_Spread_busiest sc_Spread_busiest len_Spread_busiest (fun cdv A outer s H E hr => by
    have hu1 := hu_of hr
    have hu64 := hr.units
    exact (ass_one (as_ret (ae_callB (cr_max rfl) abc_max (aa_cons (ae_fld T.kl_Spread T.no_Spread_loads (av 0)) aa_nil) T.n_max boot_max)))) spec_Spread_busiest
def sp_Spread_exchanges : ASp := fun ds M Q => ∃ M0 p lr lo as N S w, ∃ h : Nat, ds = [.ref p, dn h] ∧ SpAt M0 M p lr lo as N S ∧ NdOk N w ∧ SprI N w S ∧ SzOk N w ∧ Q (exV (exchS N S.reads h)) M
def tk_Spread_exchanges_2 : RS := (aRet (aFz (aVar 2)))
def tk_Spread_exchanges_1 : RS := aSeq (aFor (aiEnum (aCons (aFld ("Spread" : Str) ("reads" : Str) (aVar 0)) aNil)) (agTup 2 (agCons (agName 3) (agCons (agName 4) agNil))) (aIfS (aB (aOp aInK (aVar 1) (aVar 4))) (aDrop (aMth "list" amExt (aVar 2) (aCons (aLc (aiSeq (aOp aIx (aOp aIx (aFld ("Spread" : Str) ("needs" : Str) (aVar 0)) (aVar 3)) (aC (.int 1)))) (.nm 5) [5] (aB (aOp aNotInK (aVar 5) (aVar 4))) (aTup (aCons (aVar 3) (aCons (aVar 5) aNil)))) aNil))) aNext)) (tk_Spread_exchanges_2)
def t_Spread_exchanges : RS := aSeq (aAsg (aLst aNil) (agName 2)) (tk_Spread_exchanges_1)
theorem len_Spread_exchanges : ∀ ds M Q, sp_Spread_exchanges ds M Q → ds.length = 2 := by
  rintro ds M Q ⟨M0, p, lr, lo, as, N, S, w, h, rfl, _⟩
  rfl
theorem spec_Spread_exchanges : ∀ ds M Q, sp_Spread_exchanges ds M Q → t_Spread_exchanges (retD Q) (startA 6 ds) M := by
  rintro ds M Q ⟨M0, p, lr, lo, as, N, S, w, h, rfl, hs, ok, I, ⟨hw0, hw, hN⟩, k⟩
  decreasing_tactic
  intro r hr
  have e1 := objC_l ((mup_ne (ne_of_new hs.hp hr)).trans hs.hp : mup M r (.lst []) p = _)
  have e2 : mup M r (.lst []) lr = some (.lst (as.map fun a => .ref a)) := (mup_ne (ne_of_new hs.hr hr)).trans hs.hr
  ((repeat ((conv => whnf); simp only [lenA_r, itemsA_r, lstA_r, lstC_s, Option.map_some, atI_0, ixN_0, mup_same, mup_mup, true_and, and_true, List.map_cons, List.map_nil, List.length_cons, List.length_map, List.length_nil, List.set_cons_zero, List.set_cons_succ, List.cons_append, List.nil_append, List.getElem?_cons_zero, List.getElem?_cons_succ, e1, (sp_lk N lr lo).2.1])); (conv => whnf))
  rw [e2]
  ((repeat ((conv => whnf); simp only [lenA_r, itemsA_r, lstA_r, lstC_s, Option.map_some, atI_0, ixN_0, mup_same, mup_mup, true_and, and_true, List.map_cons, List.map_nil, List.length_cons, List.length_map, List.length_nil, List.set_cons_zero, List.set_cons_succ, List.cons_append, List.nil_append, List.getElem?_cons_zero, List.getElem?_cons_succ])); (conv => whnf))
  have nr : lr ≠ r := ne_of_new hs.hr hr
  refine forW_inv (fun i ρ M' => ∃ x3 x4 x5, ρ = [some (.ref p), some (dn h), some (.ref r), x3, x4, x5] ∧ M' r = some (.lst ((exN N S.reads h i).map fun e => .tup [dn e.1, dn e.2])) ∧ Sub M (mdel M' r)) ⟨none, none, none, rfl, mup_same, grow_new hr⟩ (fun i ρ M' _ q => ?_) ?_ ?_
  · obtain ⟨_, _, _, _, _, sb⟩ := q
    rw [mdel_sub _ _ (sb _ _ hs.hr)]
    rfl
  · rintro i d ρ M' hi ⟨x3, x4, x5, rfl, hl, sb⟩
    obtain ⟨f, hf, rfl⟩ := enumD_get' hi
    rw [List.getElem?_map] at hf
    obtain ⟨a, ha, rfl⟩ := Option.map_eq_some_iff.mp hf
    have hi1 := (List.getElem?_eq_some_iff.mp ha).1
    have hi2 : i < S.reads.length := by rw [← hs.al]; exact hi1
    have hi3 : i < N.length := by rw [← I.rl]; exact hi2
    have hs' := hs.mono (sb.trans mdel_sub)
    have hq : S.reads[i]? = some (S.reads.getD i []) := by rw [List.getD_eq_getElem?_getD, List.getElem?_eq_getElem hi2]; rfl
    have hn : N[i]? = some (N.getD i (0, [], 0)) := by rw [List.getD_eq_getElem?_getD, List.getElem?_eq_getElem hi3]; rfl
    have hM := hs'.ha i a _ ha hq
    have el := exN_len ok S.reads h i (by omega)
    have es := exN_succ N S.reads h i
    have e1' := objC_l hs'.hp
    have na := nd_at hn
    obtain ⟨okA, okB, _⟩ := ok.nd _ (List.mem_of_getElem? hn)
    generalize S.reads.getD i [] = q at hq hM es
    generalize N.getD i (0, [], 0) = n at hn es na okA okB
    have k1 := keysD_dns q
    have dl : n.2.1.length ≤ w := by
      have := List.Nodup.length_le_of_subset okA (l₂ := List.range w) fun x hx => List.mem_range.mpr (okB x hx)
      rw [List.length_range] at this
      exact this
    have bnd : i * w ≤ 1000 * 100 := Nat.mul_le_mul (by omega) hw
    decreasing_tactic
    rw [hM]
    ((repeat ((conv => whnf); simp only [lenA_r, itemsA_r, lstA_r, lstC_s, Option.map_some, atI_0, ixN_0, mup_same, mup_mup, true_and, and_true, List.map_cons, List.map_nil, List.length_cons, List.length_map, List.length_nil, List.set_cons_zero, List.set_cons_succ, List.cons_append, List.nil_append, List.getElem?_cons_zero, List.getElem?_cons_succ, k1])); (conv => whnf))
    rw [memK_nats]
    by_cases c : h ∈ q
    · rw [if_pos c] at es
      rw [decide_eq_true c]
      decreasing_tactic
      ((repeat ((conv => whnf); simp only [lenA_r, itemsA_r, lstA_r, lstC_s, Option.map_some, atI_0, ixN_0, mup_same, mup_mup, true_and, and_true, List.map_cons, List.map_nil, List.length_cons, List.length_map, List.length_nil, List.set_cons_zero, List.set_cons_succ, List.cons_append, List.nil_append, List.getElem?_cons_zero, List.getElem?_cons_succ, e1', (sp_lk N lr lo).1, na])); (conv => whnf))
      refine lcO (fun j => if n.2.1.getD j 0 ∈ q then none else some (.tup [dn i, dn (n.2.1.getD j 0)])) (fun _ _ => rfl) (by rw [List.length_map]; exact le_line (by omega)) (fun j d hd M2 N2 hs2 q2 => ?_) fun D hD => ?_
      · rw [List.getElem?_map] at hd
        obtain ⟨o, ho, rfl⟩ := Option.map_eq_some_iff.mp hd
        have eo : n.2.1.getD j 0 = o := by rw [List.getD_eq_getElem?_getD, ho]; rfl
        rw [eo] at q2
        refine ⟨_, rfl, ?_⟩
        have hM2 := hs2 _ _ hM
        decreasing_tactic
        rw [hM2]
        ((repeat ((conv => whnf); simp only [lenA_r, itemsA_r, lstA_r, lstC_s, Option.map_some, atI_0, ixN_0, mup_same, mup_mup, true_and, and_true, List.map_cons, List.map_nil, List.length_cons, List.length_map, List.length_nil, List.set_cons_zero, List.set_cons_succ, List.cons_append, List.nil_append, List.getElem?_cons_zero, List.getElem?_cons_succ, k1])); (conv => whnf))
        rw [memK_nats]
        by_cases c2 : o ∈ q
        · rw [if_pos c2] at q2
          rw [decide_eq_true c2]
          decreasing_tactic
          exact q2
        · rw [if_neg c2] at q2
          rw [decide_eq_false c2]
          decreasing_tactic
          exact q2
      · rw [List.length_map]
        have ef : (List.range n.2.1.length).filterMap (fun j => if n.2.1.getD j 0 ∈ q then none else some (Dv.tup [dn i, dn (n.2.1.getD j 0)])) = ((n.2.1.filter fun o => decide (o ∉ q)).map fun o => (i, o)).map fun e => Dv.tup [dn e.1, dn e.2] := by
          rw [fm_idx n.2.1 (fun o => if o ∈ q then none else some (Dv.tup [dn i, dn o])) 0, List.map_map]
          generalize n.2.1 = L
          induction L with
          | nil => rfl
          | cons x L ih =>
            by_cases c3 : x ∈ q
            · rw [List.filterMap_cons_none (by rw [if_pos c3]), List.filter_cons_of_neg (by simpa using c3), ih]
            · rw [List.filterMap_cons_some (by rw [if_neg c3]), List.filter_cons_of_pos (by simpa using c3), List.map_cons, ih]
              rfl
        have nD : r ≠ D := ne_of_new hl hD
        have hl2 : mup M' D (.lst ((List.range n.2.1.length).filterMap (fun j => if n.2.1.getD j 0 ∈ q then none else some (Dv.tup [dn i, dn (n.2.1.getD j 0)])))) r = some (.lst ((exN N S.reads h i).map fun e => .tup [dn e.1, dn e.2])) := (mup_ne nD).trans hl
        rw [ef] at hl2 ⊢
        have lf : (n.2.1.filter fun o => decide (o ∉ q)).length ≤ w := Nat.le_trans (List.length_filter_le _ _) dl
        have el2 := Nat.le_trans el bnd
        ((repeat ((conv => whnf); simp only [lenA_r, itemsA_r, lstA_r, lstC_s, Option.map_some, atI_0, ixN_0, mup_same, mup_mup, true_and, and_true, List.map_cons, List.map_nil, List.length_cons, List.length_map, List.length_nil, List.set_cons_zero, List.set_cons_succ, List.cons_append, List.nil_append, List.getElem?_cons_zero, List.getElem?_cons_succ, hl2])); (conv => whnf))
        refine ⟨le_line (by omega), _, mup M' r (.lst ((exN N S.reads h (i + 1)).map fun e => .tup [dn e.1, dn e.2])), SubE.refl _, ?_, _, _, _, rfl, mup_same, grow_put sb⟩
        rw [es, List.map_append]
        exact Sub.both (Sub.new hD)
    · rw [if_neg c, List.append_nil] at es
      rw [decide_eq_false c]
      decreasing_tactic
      exact wk_of ⟨_, _, _, rfl, by rw [es]; exact hl, sb⟩
  · rintro ρ M' ⟨x3, x4, x5, rfl, hl, sb⟩
    rw [enumD_len, List.length_map, hs.al] at hl
    decreasing_tactic
    exact ⟨mdel M' r, mdel_same, mdel_sub, retSub sb k⟩
theorem ok_Spread_exchanges (T : Tx K mg) : FnA P w K mg base 1 T.f_Spread_exchanges T.d_Spread_exchanges [("self" : Str), ("disk" : Str)] sp_Spread_exchanges :=
  fnA T.F_Spread_exchanges sc_Spread_exchanges len_Spread_exchanges (fun cdv A outer s H E hr => by
    have hu1 := hu_of hr
    have hu64 := hr.units
    exact (ass_cons (as_set 2 sc_Spread_exchanges.nd (ae_lst aa_nil))
    (ass_cons (as_for PassesOwn.never rfl (ai_enum T.n_enumerate (aa_cons (ae_fld T.kl_Spread T.no_Spread_reads (av 0)) aa_nil)) (ag_tup rfl (ags_cons (ag_name 3 sc_Spread_exchanges.nd) (ags_cons (ag_name 4 sc_Spread_exchanges.nd) ags_nil))) (ass_one (as_if (at_inK hu1 (av 1) (av 4)) (ass_one (as_expr (ae_extend (av 2) (aa_cons (ae_lc (own := [(("other" : Str), 5)]) (tg := (.nm 5)) (by decide) rfl sc_Spread_exchanges.nd (ai_seq (ae_ix hu1 (ae_ix hu1 (ae_fld T.kl_Spread T.no_Spread_needs (av 0)) (av 3)) ae_int)) (blkOk_by (own := [(("other" : Str), 5)]) (N := N_Spread_exchanges) (sc := defScope s_Spread_exchanges) (by decide +kernel)) (fun _ _ _ _ _ => (pgt_name 5 sc_Spread_exchanges.nd)) (fun _ _ _ _ _ => (ats_one (at_notinK hu1 (av 5) (av 4)))) (fun _ _ _ _ _ => (ae_tup (aa_cons (av 3) (aa_cons (av 5) aa_nil))))) aa_nil)))) ass_nil)))
    (ass_one (as_ret (ae_fz (av 2))))))) spec_Spread_exchanges
def sp_Spread_reached : ASp := fun ds M Q => ∃ M0 p lr lo as N S w, ∃ d : Nat, ds = [.ref p, dn d] ∧ SpAt M0 M p lr lo as N S ∧ NdOk N w ∧ SprI N w S ∧ SzOk N w ∧ d < w ∧ ∀ f, M f = none → Q (.ref f) (mup M f (.dic (fnV (reachS (exchS N S.reads) d w))))
def tk_Spread_reached_3 : RS := (aRet (aVar 2))
def tk_Spread_reached_2 : RS := aSeq (aWhile (aB (aOp aGt (aFn acLen (aCons (aVar 3) aNil)) (aC (.int 0)))) (aSeq (aAsg (aMth "list" amPop (aVar 3) (aCons (aC (.int 0)) aNil)) (agName 4))
    (aFor (aiSeq (aMeth ("Spread" : Str) ("exchanges" : Str) sp_Spread_exchanges (aVar 0) (aCons (aVar 4) aNil))) (agTup 2 (agCons (agName 5) (agCons (agName 6) agNil))) (aIfS (aB (aOp aNotInK (aVar 6) (aVar 2))) (aSeq (aAsg (aTup (aCons (aVar 5) (aCons (aVar 4) aNil))) (agSub (aVar 2) (aVar 6) asSet))
    (aDrop (aMth "list" amApp (aVar 3) (aCons (aVar 6) aNil)))) aNext)))) (tk_Spread_reached_3)
def tk_Spread_reached_1 : RS := aSeq (aAsg (aLst (aCons (aVar 1) aNil)) (agName 3)) (tk_Spread_reached_2)
def t_Spread_reached : RS := aSeq (aAsg (aDisp (((aVar 1), (aC .non)) :: [])) (agName 2)) (tk_Spread_reached_1)
theorem len_Spread_reached : ∀ ds M Q, sp_Spread_reached ds M Q → ds.length = 2 := by
  rintro ds M Q ⟨M0, p, lr, lo, as, N, S, w, d, rfl, _⟩
  rfl
theorem spec_Spread_reached : ∀ ds M Q, sp_Spread_reached ds M Q → t_Spread_reached (retD Q) (startA 7 ds) M := by
  rintro ds M Q ⟨M0, p, lr, lo, as, N, S, w, d, rfl, hs, ok, I, sz, hd, k⟩
  have hex := ex_lt ok I
  decreasing_tactic
  intro f hf
  decreasing_tactic
  ((repeat ((conv => whnf); simp only [lenA_r, itemsA_r, lstA_r, lstC_s, Option.map_some, atI_0, ixN_0, mup_same, mup_mup, true_and, and_true, List.map_cons, List.map_nil, List.length_cons, List.length_map, List.length_nil, List.set_cons_zero, List.set_cons_succ, List.cons_append, List.nil_append, List.getElem?_cons_zero, List.getElem?_cons_succ])); (conv => whnf))
  intro l hl
  have nfl : f ≠ l := ne_of_new mup_same hl
  rw [mup_ne nfl.symm] at hl
  have em : mergeA [] [((Sum.inl (d : Int) : Key), Dv.non)] = fnV [(d, none)] := rfl
  rw [em]
  generalize hx : exchS N S.reads = ex at hex k
  decreasing_tactic
  refine ⟨fun m ρ M' => ∃ i x4 x5 x6, m = w - i ∧ i ≤ w ∧ ρ = [some (.ref p), some (dn d), some (.ref f), some (.ref l), x4, x5, x6] ∧ M' f = some (.dic (fnV (reachN ex d i))) ∧ M' l = some (.lst (dnsV ((keyF (reachN ex d i)).drop i))) ∧ Sub M M' ∧ ∀ k, k < i → k < (reachN ex d k).length, ⟨w, 0, none, none, none, rfl, Nat.zero_le _, rfl, (mup_ne nfl).trans mup_same, mup_same, (Sub.new hf).mut hl, fun k hk => absurd hk (Nat.not_lt_zero _)⟩, ?_⟩
  rintro m ρ M' ⟨i, x4, x5, x6, rfl, iw, rfl, h1, h2, sb, hk⟩
  have F := reach_ok hd hex i hk
  have fl := F.len
  have kl : ((keyF (reachN ex d i)).drop i).length = (reachN ex d i).length - i := by rw [List.length_drop, key_len]
  decreasing_tactic
  ((repeat ((conv => whnf); simp only [lenA_r, itemsA_r, lstA_r, lstC_s, Option.map_some, atI_0, ixN_0, mup_same, mup_mup, true_and, and_true, List.map_cons, List.map_nil, List.length_cons, List.length_map, List.length_nil, List.set_cons_zero, List.set_cons_succ, List.cons_append, List.nil_append, List.getElem?_cons_zero, List.getElem?_cons_succ, h2])); (conv => whnf))
  by_cases c : i < (reachN ex d i).length
  · rw [decide_eq_true (show (0 : Int) < ((dnsV ((keyF (reachN ex d i)).drop i)).length : Nat) by rw [dns_len, kl]; omega)]
    obtain ⟨here, v, hh⟩ : ∃ here v, (reachN ex d i)[i]? = some (here, v) := ⟨_, _, List.getElem?_eq_getElem c⟩
    have ed : (keyF (reachN ex d i)).drop i = here :: (keyF (reachN ex d i)).drop (i + 1) := by
      have q := key_get hh
      obtain ⟨q1, q2⟩ := List.getElem?_eq_some_iff.mp q
      rw [List.drop_eq_getElem_cons q1, q2]
    rw [ed] at h2
    have eS : reachN ex d (i + 1) = (ex here).foldl (growS here) (reachN ex d i) := by
      show stepF ex (reachN ex d i) i = _
      unfold stepF
      rw [hh]
    have iw2 : i + 1 ≤ w := by omega
    have hk2 : ∀ k, k < i + 1 → k < (reachN ex d k).length := fun k hk3 => by
      by_cases e : k = i
      · rw [e]; exact c
      · exact hk k (by omega)
    generalize reachN ex d i = G at F fl h1 h2 c hh ed eS
    have Lm : ∀ e ∈ ex here, e.2 < w := hex here
    have exl : (ex here).length ≤ 1000 * 100 := by
      rw [← hx]
      have := exN_len ok S.reads here S.reads.length (by rw [I.rl]; omega)
      refine Nat.le_trans this (Nat.mul_le_mul (by rw [I.rl]; exact sz.2.2) sz.2.1)
    decreasing_tactic
    have ee : (dnsV (here :: (keyF G).drop (i + 1))).eraseIdx (Int.toNat 0) = dnsV ((keyF G).drop (i + 1)) := rfl
    rw [ee]
    have s1 : Sub M (mup M' l (.lst (dnsV ((keyF G).drop (i + 1))))) := sb.mut hl
    have f1 : mup M' l (.lst (dnsV ((keyF G).drop (i + 1)))) f = some (.dic (fnV G)) := (mup_ne nfl).trans h1
    have l1 : mup M' l (.lst (dnsV ((keyF G).drop (i + 1)))) l = some (.lst (dnsV ((keyF G).drop (i + 1)))) := mup_same
    generalize mup M' l (.lst (dnsV ((keyF G).drop (i + 1)))) = M1 at s1 f1 l1 ⊢
    have hs1 := hs.mono s1
    have e1 := objC_l hs1.hp
    ((repeat ((conv => whnf); simp only [lenA_r, itemsA_r, lstA_r, lstC_s, Option.map_some, atI_0, ixN_0, mup_same, mup_mup, true_and, and_true, List.map_cons, List.map_nil, List.length_cons, List.length_map, List.length_nil, List.set_cons_zero, List.set_cons_succ, List.cons_append, List.nil_append, List.getElem?_cons_zero, List.getElem?_cons_succ, e1])); (conv => whnf))
    refine ⟨(sp_no N lr lo).2.1, ?_⟩
    decreasing_tactic
    refine ⟨M0, p, lr, lo, as, N, S, w, here, rfl, hs1, ok, I, sz, ?_⟩
    rw [hx]
    unfold exV
    decreasing_tactic
    refine forW_inv (fun j ρ M2 => ∃ x5 x6, ρ = [some (.ref p), some (dn d), some (.ref f), some (.ref l), some (dn here), x5, x6] ∧ M2 f = some (.dic (fnV (((ex here).take j).foldl (growS here) G))) ∧ M2 l = some (.lst (dnsV ((keyF (((ex here).take j).foldl (growS here) G)).drop (i + 1)))) ∧ Sub M M2) ⟨_, _, rfl, f1, l1, s1⟩ (fun _ _ _ _ _ => rfl) ?_ ?_
    · rintro j e ρ M2 hj ⟨y5, y6, rfl, f2, l2, s2⟩
      rw [List.getElem?_map] at hj
      obtain ⟨⟨n, o⟩, he, rfl⟩ := Option.map_eq_some_iff.mp hj
      obtain ⟨Fj, _⟩ := FndI.fold Lm ((ex here).take j) G F hh fun y hy => List.mem_of_mem_take hy
      obtain ⟨g, eg⟩ := fold_pre here ((ex here).take j) G
      have gl : i + 1 ≤ (((ex here).take j).foldl (growS here) G).length := by rw [eg, List.length_append]; omega
      have Fl := Fj.len
      have et : ((ex here).take (j + 1)).foldl (growS here) G = growS here (((ex here).take j).foldl (growS here) G) (n, o) := by
        rw [List.take_succ, he, List.foldl_append]
        rfl
      rw [et]
      generalize ((ex here).take j).foldl (growS here) G = K at f2 l2 gl Fl
      have kn := fn_has K o
      have le : K.length ≤ sizeLine := le_line (by have := sz.2.1; omega)
      have ll : ((keyF K).drop (i + 1)).length < sizeLine := lt_line (by rw [List.length_drop, key_len]; have := sz.2.1; omega)
      decreasing_tactic
      ((repeat ((conv => whnf); simp only [lenA_r, itemsA_r, lstA_r, lstC_s, Option.map_some, atI_0, ixN_0, mup_same, mup_mup, true_and, and_true, List.map_cons, List.map_nil, List.length_cons, List.length_map, List.length_nil, List.set_cons_zero, List.set_cons_succ, List.cons_append, List.nil_append, List.getElem?_cons_zero, List.getElem?_cons_succ, f2])); (conv => whnf))
      rw [kn]
      by_cases co : o ∈ keyF K
      · rw [decide_eq_true co]
        decreasing_tactic
        have eg : growS here K (n, o) = K := if_pos co
        rw [eg]
        exact wk_of ⟨_, _, rfl, f2, l2, s2⟩
      · rw [decide_eq_false co]
        have eg : growS here K (n, o) = K ++ [(o, some (n, here))] := if_neg co
        have ep := fn_put co n here
        rw [eg]
        decreasing_tactic
        ((repeat ((conv => whnf); simp only [lenA_r, itemsA_r, lstA_r, lstC_s, Option.map_some, atI_0, ixN_0, mup_same, mup_mup, true_and, and_true, List.map_cons, List.map_nil, List.length_cons, List.length_map, List.length_nil, List.set_cons_zero, List.set_cons_succ, List.cons_append, List.nil_append, List.getElem?_cons_zero, List.getElem?_cons_succ, f2])); (conv => whnf))
        refine ⟨lt_line (by rw [fn_len]; have := sz.2.1; omega), ?_⟩
        rw [ep]
        have f3 : mup M2 f (.dic (fnV (K ++ [(o, some (n, here))]))) f = some (.dic (fnV (K ++ [(o, some (n, here))]))) := mup_same
        have l3 : mup M2 f (.dic (fnV (K ++ [(o, some (n, here))]))) l = some (.lst (dnsV ((keyF K).drop (i + 1)))) := (mup_ne nfl.symm).trans l2
        have s3 : Sub M (mup M2 f (.dic (fnV (K ++ [(o, some (n, here))])))) := s2.mut hf
        generalize mup M2 f (.dic (fnV (K ++ [(o, some (n, here))]))) = M3 at f3 l3 s3 ⊢
        (conv => whnf)
        refine ⟨tyM_list l3, ?_⟩
        ((repeat ((conv => whnf); simp only [lenA_r, itemsA_r, lstA_r, lstC_s, Option.map_some, atI_0, ixN_0, mup_same, mup_mup, true_and, and_true, List.map_cons, List.map_nil, List.length_cons, List.length_map, List.length_nil, List.set_cons_zero, List.set_cons_succ, List.cons_append, List.nil_append, List.getElem?_cons_zero, List.getElem?_cons_succ, l3])); (conv => whnf))
        refine ⟨by rw [dns_len]; exact ll, ?_⟩
        refine wk_of ⟨_, _, rfl, (mup_ne nfl).trans f3, ?_, s3.mut hl⟩
        rw [mup_same, key_app, List.drop_append_of_le_length (by rw [key_len]; exact gl)]
        unfold dnsV
        rw [List.map_append]
        rfl
    · rintro ρ M2 ⟨y5, y6, rfl, f2, l2, s2⟩
      rw [List.length_map, List.take_length, ← eS] at f2 l2
      exact wk_of ⟨w - (i + 1), by omega, i + 1, _, _, _, rfl, iw2, rfl, f2, l2, s2, hk2⟩
  · rw [decide_eq_false (show ¬ (0 : Int) < ((dnsV ((keyF (reachN ex d i)).drop i)).length : Nat) by rw [dns_len, kl]; omega)]
    have eR : reachN ex d i = reachS ex d w := by
      have := reach_stop (ex := ex) (d := d) (i := i) (by omega) (w - i)
      rw [show i + (w - i) = w from by omega] at this
      exact this.symm
    rw [eR] at h1
    decreasing_tactic
    refine retSub (M := mup M f _) (fun a c q => ?_) (k f hf)
    by_cases e : a = f
    · rw [e] at q ⊢
      rw [mup_same] at q
      rw [h1, q]
    · rw [mup_ne e] at q
      exact sb a c q
theorem ok_Spread_reached (T : Tx K mg) : FnA P w K mg base 2 T.f_Spread_reached T.d_Spread_reached [("self" : Str), ("disk" : Str)] sp_Spread_reached :=
  fnA T.F_Spread_reached sc_Spread_reached len_Spread_reached (fun cdv A outer s H E hr => by
    have hu1 := hu_of hr
    have hu64 := hr.units
    exact (ass_cons (as_set 2 sc_Spread_reached.nd (ae_disp (app_cons (av 1) ae_non app_nil) rfl rfl (fun z => by cases z) (by decide)))
    (ass_cons (as_set 3 sc_Spread_reached.nd (ae_lst (aa_cons (av 1) aa_nil)))
    (ass_cons (as_while PassesOwn.never (at_gt (ae_callB call_len abc_len (aa_cons (av 3) aa_nil) T.n_len boot_len) ae_int) (ass_cons (as_set 4 sc_Spread_reached.nd (ae_popAt (av 3) (aa_cons ae_int aa_nil)))
    (ass_one (as_for PassesOwn.never rfl (ai_seq (ae_meth T.kl_Spread T.me_Spread_exchanges (ok_Spread_exchanges T) (hr.mono (by decide)) T.b_Spread_exchanges (av 0) (aa_cons (av 4) aa_nil))) (ag_tup rfl (ags_cons (ag_name 5 sc_Spread_reached.nd) (ags_cons (ag_name 6 sc_Spread_reached.nd) ags_nil))) (ass_one (as_if (at_notinK hu1 (av 6) (av 2)) (ass_cons (as_asg (ae_tup (aa_cons (av 5) (aa_cons (av 4) aa_nil))) (ag_sub hu1 (av 2) (av 6)))
    (ass_one (as_expr (ae_append (av 3) (aa_cons (av 6) aa_nil))))) ass_nil))))))
    (ass_one (as_ret (av 2))))))) spec_Spread_reached
def sp_Spread_shift : ASp := fun ds M Q => ∃ M0 p lr lo as N S w f, ∃ F : Fnd, ∃ d0 j d : Nat, ∃ v, ds = [.ref p, .ref f, dn d] ∧ SpAt M0 M p lr lo as N S ∧ NdOk N w ∧ SprI N w S ∧ SzOk N w ∧ M0 f = some (.fdc (fnV F)) ∧ FndI (exchS N S.reads) d0 w F.length F ∧ F[j]? = some (d, v) ∧ ∀ M', SpAt M0 M' p lr lo as N (shiftN F F.length d S) → Q .non M'
def t_Spread_shift : RS := (aWhile (aB (aOp aIsNot (aOp aIxD (aVar 1) (aVar 2)) (aC .non))) (aSeq (aAsg (aOp aIxD (aVar 1) (aVar 2)) (agTup 2 (agCons (agName 3) (agCons (agName 4) agNil))))
    (aSeq (aDrop (aMth "list" amRem (aOp aIx (aFld ("Spread" : Str) ("reads" : Str) (aVar 0)) (aVar 3)) (aCons (aVar 4) aNil)))
    (aSeq (aDrop (aMth "list" amApp (aOp aIx (aFld ("Spread" : Str) ("reads" : Str) (aVar 0)) (aVar 3)) (aCons (aVar 2) aNil)))
    (aSeq (aAugS (aFld ("Spread" : Str) ("loads" : Str) (aVar 0)) (aVar 4) (aC (.int 1)) fun i j => i - j)
    (aSeq (aAugS (aFld ("Spread" : Str) ("loads" : Str) (aVar 0)) (aVar 2) (aC (.int 1)) fun i j => i + j)
    (aAsg (aVar 4) (agName 2))))))))
theorem len_Spread_shift : ∀ ds M Q, sp_Spread_shift ds M Q → ds.length = 3 := by
  rintro ds M Q ⟨M0, p, lr, lo, as, N, S, w, f, F, d0, j, d, v, rfl, _⟩
  rfl
theorem spec_Spread_shift : ∀ ds M Q, sp_Spread_shift ds M Q → t_Spread_shift (retD Q) (startA 5 ds) M := by
  rintro ds M Q ⟨M0, p, lr, lo, as, N, S, w, f, F, d0, j, d, v, rfl, hs, ok, I, sz, hf, Fi, hj, k⟩
  have hed : ∀ (j o n h : Nat), F[j]? = some (o, some (n, h)) → ∃ nn, N[n]? = some nn ∧ o ∈ nn.2.1 := fun j o n h q => by
    have hj0 : 0 < j := by
      cases j with
      | zero => rw [Fi.hd] at q; cases q
      | succ j => exact Nat.succ_pos _
    obtain ⟨n', h', k, v', e1, _, _, e4⟩ := Fi.fr j o _ q hj0
    cases e1
    obtain ⟨nn, r, h1, _, _, h4, _⟩ := (mem_exch I.rl).mp e4
    exact ⟨nn, h1, h4⟩
  have P := path_of I.rl Fi j (List.getElem?_eq_some_iff.mp hj).1
  have jl := (List.getElem?_eq_some_iff.mp hj).1
  generalize hR : shiftN F F.length d S = R at k
  decreasing_tactic
  refine ⟨fun m ρ M' => ∃ j d v x3 x4 S' q, m = j ∧ j < q ∧ ρ = [some (.ref p), some (.ref f), some (dn d), x3, x4] ∧ F[j]? = some (d, v) ∧ SpAt M0 M' p lr lo as N S' ∧ SprI N w S' ∧ PathE F S'.reads d0 j ∧ shiftN F q d S' = R, ⟨j, j, d, v, none, none, S, F.length, rfl, jl, rfl, hj, hs, I, P, hR⟩, ?_⟩
  clear hs hj jl P I hR
  rintro m ρ M' ⟨j, d, v, x3, x4, S, q, rfl, hq, rfl, hj, hs, I, P, hR⟩
  have hM := hs.sub _ _ hf
  have ed : dicA M' (.ref f) = some (fnV F) := by simp only [dicA, hM]
  have eg : getK (fnV F) (.inl (d : Int)) = some (vV v) := fn_at (look_at Fi.nd hj)
  decreasing_tactic
  ((repeat ((conv => whnf); simp only [lenA_r, itemsA_r, lstA_r, lstC_s, Option.map_some, atI_0, ixN_0, mup_same, mup_mup, true_and, and_true, List.map_cons, List.map_nil, List.length_cons, List.length_map, List.length_nil, List.set_cons_zero, List.set_cons_succ, List.cons_append, List.nil_append, List.getElem?_cons_zero, List.getElem?_cons_succ, ed, eg])); (conv => whnf))
  obtain ⟨q, rfl⟩ : ∃ q', q = q' + 1 := ⟨q - 1, by omega⟩
  unfold shiftN lookF at hR
  rw [look_at Fi.nd hj] at hR
  cases P with
  | root h =>
    rw [h] at hj
    cases hj
    decreasing_tactic
    exact ⟨M', Sub.refl _, k _ (hR ▸ hs)⟩
  | @edge _ kk o n h v' r h1 h2 h3 h4 h5 h6 hp =>
    rw [h1] at hj
    cases hj
    obtain ⟨nn, e1, e2⟩ := hed _ d n h h1
    have hw := Fi.lt _ (key_mem h3)
    have dw := Fi.lt _ (key_mem h1)
    obtain ⟨I2, g⟩ := I.sh e1 h4 h5 h6 e2 hw dw
    have gr : S.reads.getD n [] = r := by rw [List.getD_eq_getElem?_getD, h4]; rfl
    have P2 : PathE F (shS S n h d).reads d0 kk := by
      show PathE F (S.reads.set n ((S.reads.getD n []).erase h ++ [d])) d0 kk
      rw [gr]
      exact path_keep Fi.nd h1 h3 h2 h4 hp (Nat.le_refl _)
    obtain ⟨a, ha⟩ : ∃ a, as[n]? = some a := by
      have := (List.getElem?_eq_some_iff.mp h4).1
      rw [← hs.al] at this
      exact ⟨_, List.getElem?_eq_getElem this⟩
    have ea : atI (as.map fun a => Dv.ref a) (n : Int) = some (.ref a) := HC.atI_nat (by rw [List.getElem?_map, ha]; rfl)
    obtain ⟨q1, q2, _⟩ := I.rd n nn r e1 h4
    have rw1 : r.length ≤ w := by
      have := List.Nodup.length_le_of_subset q1 (l₂ := List.range w) fun x hx => List.mem_range.mpr ((ok.nd nn (List.mem_of_getElem? e1)).2.1 x (q2 x hx))
      rw [List.length_range] at this
      exact this
    have er : (r.erase h).length < sizeLine := lt_line (by have := List.length_erase_le (a := h) (l := r); have := sz.2.1; omega)
    obtain ⟨ns, jj, m1, m2, m3, m4⟩ := rem_ok h5
    have M1h := hs.ha n a r ha h4
    have o1 := objC_l hs.hp
    have o2 := hs.hr
    have hsB := hs.setA ha (r.erase h)
    have o3 := objC_l hsB.hp
    have o4 := hsB.hr
    have M2h : mup M' a (.lst (dnsV (r.erase h))) a = some (.lst (dnsV (r.erase h))) := mup_same
    decreasing_tactic
    ((repeat ((conv => whnf); simp only [lenA_r, itemsA_r, lstA_r, lstC_s, Option.map_some, atI_0, ixN_0, mup_same, mup_mup, true_and, and_true, List.map_cons, List.map_nil, List.length_cons, List.length_map, List.length_nil, List.set_cons_zero, List.set_cons_succ, List.cons_append, List.nil_append, List.getElem?_cons_zero, List.getElem?_cons_succ, ed, eg])); (conv => whnf))
    ((repeat ((conv => whnf); simp only [lenA_r, itemsA_r, lstA_r, lstC_s, Option.map_some, atI_0, ixN_0, mup_same, mup_mup, true_and, and_true, List.map_cons, List.map_nil, List.length_cons, List.length_map, List.length_nil, List.set_cons_zero, List.set_cons_succ, List.cons_append, List.nil_append, List.getElem?_cons_zero, List.getElem?_cons_succ, o1, (sp_lk N lr lo).2.1, o2, ea])); (conv => whnf))
    refine ⟨tyM_list M1h, ns, jj, by rw [M1h, m1], m2, m3, ?_⟩
    rw [m4]
    generalize mup M' a (.lst (dnsV (r.erase h))) = M1 at hsB o3 o4 M2h ⊢
    have hsC := hsB.setA ha (r.erase h ++ [d])
    ((repeat ((conv => whnf); simp only [lenA_r, itemsA_r, lstA_r, lstC_s, Option.map_some, atI_0, ixN_0, mup_same, mup_mup, true_and, and_true, List.map_cons, List.map_nil, List.length_cons, List.length_map, List.length_nil, List.set_cons_zero, List.set_cons_succ, List.cons_append, List.nil_append, List.getElem?_cons_zero, List.getElem?_cons_succ, o3, (sp_lk N lr lo).2.1, o4, ea])); (conv => whnf))
    refine ⟨tyM_list M2h, ?_⟩
    ((repeat ((conv => whnf); simp only [lenA_r, itemsA_r, lstA_r, lstC_s, Option.map_some, atI_0, ixN_0, mup_same, mup_mup, true_and, and_true, List.map_cons, List.map_nil, List.length_cons, List.length_map, List.length_nil, List.set_cons_zero, List.set_cons_succ, List.cons_append, List.nil_append, List.getElem?_cons_zero, List.getElem?_cons_succ, M2h])); (conv => whnf))
    refine ⟨by rw [dns_len]; exact er, ?_⟩
    rw [dns_app]
    generalize mup M1 a (.lst (dnsV (r.erase h ++ [d]))) = M2 at hsC ⊢
    rw [List.set_set] at hsC
    have p3 := objC_l hsC.hp
    have p4 := hsC.ho
    have hh : h < S.loads.length := by rw [I.ll]; exact hw
    have hd2 : d < (S.loads.set h (S.loads.getD h 0 - 1)).length := by rw [List.length_set, I.ll]; exact dw
    have g1 := dns_get hh
    have g2 := dns_get hd2
    have apos : 0 < S.loads.getD h 0 := by
      rw [I.lc h hw]
      unfold cntS
      rw [List.countP_pos_iff]
      exact ⟨r, List.mem_of_getElem? h4, decide_eq_true h5⟩
    have hsD := hsC.setO (S.loads.set h (S.loads.getD h 0 - 1))
    have hsE := hsD.setO ((S.loads.set h (S.loads.getD h 0 - 1)).set d ((S.loads.set h (S.loads.getD h 0 - 1)).getD d 0 + 1))
    have i1 : ((S.loads.getD h 0 : Nat) : Int) - 1 = ((S.loads.getD h 0 - 1 : Nat) : Int) := by omega
    have t1 : Int.toNat (h : Int) = h := Int.toNat_natCast h
    have t2 : Int.toNat (d : Int) = d := Int.toNat_natCast d
    have p5 := objC_l hsD.hp
    have p6 := hsD.ho
    ((repeat ((conv => whnf); simp only [lenA_r, itemsA_r, lstA_r, lstC_s, Option.map_some, atI_0, ixN_0, mup_same, mup_mup, true_and, and_true, List.map_cons, List.map_nil, List.length_cons, List.length_map, List.length_nil, List.set_cons_zero, List.set_cons_succ, List.cons_append, List.nil_append, List.getElem?_cons_zero, List.getElem?_cons_succ, p3, (sp_lk N lr lo).2.2, p4, t1, g1])); (conv => whnf))
    refine ⟨Int.natCast_nonneg _, ?_⟩
    ((repeat ((conv => whnf); simp only [lenA_r, itemsA_r, lstA_r, lstC_s, Option.map_some, atI_0, ixN_0, mup_same, mup_mup, true_and, and_true, List.map_cons, List.map_nil, List.length_cons, List.length_map, List.length_nil, List.set_cons_zero, List.set_cons_succ, List.cons_append, List.nil_append, List.getElem?_cons_zero, List.getElem?_cons_succ, g1, p4])); (conv => whnf))
    refine ⟨by rw [dns_len]; exact hh, ?_⟩
    rw [i1]
    have c1 : (dnsV S.loads).set h (.int ((S.loads.getD h 0 - 1 : Nat) : Int)) = dnsV (S.loads.set h (S.loads.getD h 0 - 1)) := dns_set _ _ _
    rw [c1]
    generalize mup M2 lo (.lst (dnsV (S.loads.set h (S.loads.getD h 0 - 1)))) = M3 at hsD hsE p5 p6 ⊢
    ((repeat ((conv => whnf); simp only [lenA_r, itemsA_r, lstA_r, lstC_s, Option.map_some, atI_0, ixN_0, mup_same, mup_mup, true_and, and_true, List.map_cons, List.map_nil, List.length_cons, List.length_map, List.length_nil, List.set_cons_zero, List.set_cons_succ, List.cons_append, List.nil_append, List.getElem?_cons_zero, List.getElem?_cons_succ, p5, (sp_lk N lr lo).2.2, p6, t2, g2])); (conv => whnf))
    refine ⟨Int.natCast_nonneg _, ?_⟩
    ((repeat ((conv => whnf); simp only [lenA_r, itemsA_r, lstA_r, lstC_s, Option.map_some, atI_0, ixN_0, mup_same, mup_mup, true_and, and_true, List.map_cons, List.map_nil, List.length_cons, List.length_map, List.length_nil, List.set_cons_zero, List.set_cons_succ, List.cons_append, List.nil_append, List.getElem?_cons_zero, List.getElem?_cons_succ, g2, p6])); (conv => whnf))
    refine ⟨by rw [dns_len]; exact hd2, ?_⟩
    have c2 : ∀ L : List Nat, ∀ y : Nat, (dnsV L).set d (.int ((y : Int) + 1)) = dnsV (L.set d (y + 1)) := fun L y => dns_set L d (y + 1)
    rw [c2]
    refine wk_of ⟨kk, h2, kk, h, v', _, _, shS S n h d, q, rfl, by omega, rfl, h3, ?_, I2, P2, hR⟩
    unfold shS
    rw [gr]
    exact hsE
theorem ok_Spread_shift (T : Tx K mg) : FnA P w K mg base 1 T.f_Spread_shift T.d_Spread_shift [("self" : Str), ("found" : Str), ("disk" : Str)] sp_Spread_shift :=
  fnA T.F_Spread_shift sc_Spread_shift len_Spread_shift (fun cdv A outer s H E hr => by
    have hu1 := hu_of hr
    have hu64 := hr.units
    exact (ass_one (as_while PassesOwn.never (at_isnot (ae_ixD hu1 (av 1) (av 2)) ae_non) (ass_cons (as_asg (ae_ixD hu1 (av 1) (av 2)) (ag_tup rfl (ags_cons (ag_name 3 sc_Spread_shift.nd) (ags_cons (ag_name 4 sc_Spread_shift.nd) ags_nil))))
    (ass_cons (as_expr (ae_rem (ae_ix hu1 (ae_fld T.kl_Spread T.no_Spread_reads (av 0)) (av 3)) (aa_cons (av 4) aa_nil)))
    (ass_cons (as_expr (ae_append (ae_ix hu1 (ae_fld T.kl_Spread T.no_Spread_reads (av 0)) (av 3)) (aa_cons (av 2) aa_nil)))
    (ass_cons (as_augS_sub (ae_fld T.kl_Spread T.no_Spread_loads (av 0)) (av 4) ae_int)
    (ass_cons (as_augS_add (ae_fld T.kl_Spread T.no_Spread_loads (av 0)) (av 2) ae_int)
    (ass_one (as_set 2 sc_Spread_shift.nd (av 4))))))))))) spec_Spread_shift
def sp_Spread_eased : ASp := fun ds M Q => ∃ M0 p lr lo as N S w, ds = [.ref p] ∧ SpAt M0 M p lr lo as N S ∧ NdOk N w ∧ SprI N w S ∧ SzOk N w ∧ (∀ P, easedS N w S = .inr P → Q (.tup (dnsV P)) M) ∧ ∀ S', easedS N w S = .inl S' → ∀ M', SpAt M0 M' p lr lo as N S' → Q .non M'
def tk_Spread_eased_5 : RS := (aRet (aC .non))
def tk_Spread_eased_4 : RS := aSeq (aDrop (aMeth ("Spread" : Str) ("shift" : Str) sp_Spread_shift (aVar 0) (aCons (aVar 2) (aCons (aOp aIx (aVar 3) (aC (.int 0))) aNil)))) (tk_Spread_eased_5)
def tk_Spread_eased_3 : RS := aSeq (aIfS (aB (aOp aEq (aFn acLen (aCons (aVar 3) aNil)) (aC (.int 0)))) (aRet (aFn acTup (aCons (aFz (aFn acSortDI (aCons (aVar 2) aNil))) aNil))) aNext) (tk_Spread_eased_4)
def tk_Spread_eased_2 : RS := aSeq (aAsg (aFz (aLc (aiKeys (aVar 2)) (.nm 4) [4] (aB (aOp aLt (aOp aIx (aFld ("Spread" : Str) ("loads" : Str) (aVar 0)) (aVar 4)) (aOp aSub (aVar 1) (aC (.int 1))))) (aVar 4))) (agName 3)) (tk_Spread_eased_3)
def tk_Spread_eased_1 : RS := aSeq (aAsg (aMeth ("Spread" : Str) ("reached" : Str) sp_Spread_reached (aVar 0) (aCons (aIdxL (aFld ("Spread" : Str) ("loads" : Str) (aVar 0)) (aCons (aVar 1) aNil)) aNil)) (agName 2)) (tk_Spread_eased_2)
def t_Spread_eased : RS := aSeq (aAsg (aMeth ("Spread" : Str) ("busiest" : Str) sp_Spread_busiest (aVar 0) aNil) (agName 1)) (tk_Spread_eased_1)
theorem len_Spread_eased : ∀ ds M Q, sp_Spread_eased ds M Q → ds.length = 1 := by
  rintro ds M Q ⟨M0, p, lr, lo, as, N, S, w, rfl, _⟩
  rfl
theorem spec_Spread_eased : ∀ ds M Q, sp_Spread_eased ds M Q → t_Spread_eased (retD Q) (startA 5 ds) M := by
  rintro ds M Q ⟨M0, p, lr, lo, as, N, S, w, rfl, hs, ok, I, sz, k1, k2⟩
  have e1 := objC_l hs.hp
  obtain ⟨b1, b2⟩ := I.busy sz.1
  have l0 : S.loads ≠ [] := fun e => by have := I.ll; rw [e] at this; have := sz.1; simp at *; omega
  decreasing_tactic
  ((repeat ((conv => whnf); simp only [lenA_r, itemsA_r, lstA_r, lstC_s, Option.map_some, atI_0, ixN_0, mup_same, mup_mup, true_and, and_true, List.map_cons, List.map_nil, List.length_cons, List.length_map, List.length_nil, List.set_cons_zero, List.set_cons_succ, List.cons_append, List.nil_append, List.getElem?_cons_zero, List.getElem?_cons_succ, e1])); (conv => whnf))
  refine ⟨(sp_no N lr lo).1, ?_⟩
  decreasing_tactic
  refine ⟨M0, p, lr, lo, as, N, S, rfl, hs, l0, ?_⟩
  decreasing_tactic
  ((repeat ((conv => whnf); simp only [lenA_r, itemsA_r, lstA_r, lstC_s, Option.map_some, atI_0, ixN_0, mup_same, mup_mup, true_and, and_true, List.map_cons, List.map_nil, List.length_cons, List.length_map, List.length_nil, List.set_cons_zero, List.set_cons_succ, List.cons_append, List.nil_append, List.getElem?_cons_zero, List.getElem?_cons_succ, e1])); (conv => whnf))
  refine ⟨(sp_no N lr lo).2.2.1, ?_⟩
  decreasing_tactic
  ((repeat ((conv => whnf); simp only [lenA_r, itemsA_r, lstA_r, lstC_s, Option.map_some, atI_0, ixN_0, mup_same, mup_mup, true_and, and_true, List.map_cons, List.map_nil, List.length_cons, List.length_map, List.length_nil, List.set_cons_zero, List.set_cons_succ, List.cons_append, List.nil_append, List.getElem?_cons_zero, List.getElem?_cons_succ, e1, (sp_lk N lr lo).2.2])); (conv => whnf))
  have tm : topS S.loads ∈ S.loads := top_mem l0
  have fi : HC.firstD (dnsV S.loads) (dn (topS S.loads)) = busyS S := by
    classical
    unfold HC.firstD busyS List.idxOf dnsV
    rw [List.findIdx_map]
    congr 1
    funext x
    rw [Bool.eq_iff_iff]
    exact ⟨fun z => beq_iff_eq.mpr (Int.ofNat.inj (Dv.int.inj (of_decide_eq_true z))), fun z => decide_eq_true (congrArg (fun n : Nat => dn n) (beq_iff_eq.mp z))⟩
  refine ⟨tyM_list hs.ho, ?_⟩
  decreasing_tactic
  refine ⟨tyM_list hs.ho, ?_⟩
  (conv => whnf)
  refine onS_of (itemsA_l hs.ho) ⟨fun z hz => ?_, True.intro, List.mem_map.mpr ⟨_, tm, rfl⟩, ?_⟩
  · obtain ⟨x, _, rfl⟩ := List.mem_map.mp hz
    trivial
  rw [fi]
  decreasing_tactic
  refine ⟨M0, p, lr, lo, as, N, S, w, busyS S, rfl, hs, ok, I, sz, b1, ?_⟩
  intro f hf
  have hF : reachS (exchS N S.reads) (busyS S) w = foundS N w S := rfl
  rw [hF]
  have F := found_ok ok I sz.1
  have s1 : Sub M (mup M f (.fdc (fnV (foundS N w S)))) := Sub.new hf
  have ea : lessS S (foundS N w S) = [] → easedS N w S = .inr (sortN (keyF (foundS N w S))) := fun e => by unfold easedS; rw [e]
  have eb : ∀ d l, lessS S (foundS N w S) = d :: l → easedS N w S = .inl (shiftN (foundS N w S) (foundS N w S).length d S) := fun d l e => by unfold easedS; rw [e]
  generalize foundS N w S = G at F s1 ea eb ⊢
  have ek : (fnV G).map (fun kv => keyDv kv.1) = dnsV (keyF G) := by
    unfold fnV dnsV keyF
    rw [List.map_map, List.map_map]
    rfl
  have gl := F.len
  decreasing_tactic
  ((repeat ((conv => whnf); simp only [lenA_r, itemsA_r, lstA_r, lstC_s, Option.map_some, atI_0, ixN_0, mup_same, mup_mup, true_and, and_true, List.map_cons, List.map_nil, List.length_cons, List.length_map, List.length_nil, List.set_cons_zero, List.set_cons_succ, List.cons_append, List.nil_append, List.getElem?_cons_zero, List.getElem?_cons_succ])); (conv => whnf))
  rw [ek]
  refine lcFk_opt (fun i => if S.loads.getD ((keyF G).getD i 0) 0 + 1 < topS S.loads then some (dn ((keyF G).getD i 0)) else none) (fun _ _ => True.intro) (by rw [dns_len, key_len]; exact le_line (by have := sz.2.1; omega)) (fun i d hd M' N' sb q => ?_) ?_
  · unfold dnsV at hd
    rw [List.getElem?_map] at hd
    obtain ⟨x, hx, rfl⟩ := Option.map_eq_some_iff.mp hd
    have ex : (keyF G).getD i 0 = x := by rw [List.getD_eq_getElem?_getD, hx]; rfl
    rw [ex] at q
    have xw : x < S.loads.length := by rw [I.ll]; exact F.lt x (List.mem_of_getElem? hx)
    have g1 := dns_at xw
    have e1' := objC_l ((s1.trans sb) _ _ hs.hp)
    have e2' := (s1.trans sb) _ _ hs.ho
    refine ⟨_, rfl, ?_⟩
    decreasing_tactic
    ((repeat ((conv => whnf); simp only [lenA_r, itemsA_r, lstA_r, lstC_s, Option.map_some, atI_0, ixN_0, mup_same, mup_mup, true_and, and_true, List.map_cons, List.map_nil, List.length_cons, List.length_map, List.length_nil, List.set_cons_zero, List.set_cons_succ, List.cons_append, List.nil_append, List.getElem?_cons_zero, List.getElem?_cons_succ, e1', (sp_lk N lr lo).2.2, e2', g1])); (conv => whnf))
    by_cases c : S.loads.getD x 0 + 1 < topS S.loads
    · rw [if_pos c] at q
      refine onIf_decT (by omega) ?_
      decreasing_tactic
      exact q
    · rw [if_neg c] at q
      refine onIf_decF (by omega) ?_
      decreasing_tactic
      exact q
  · have ef : (List.range (dnsV (keyF G)).length).filterMap (fun i => if S.loads.getD ((keyF G).getD i 0) 0 + 1 < topS S.loads then some (dn ((keyF G).getD i 0)) else none) = dnsV (lessS S G) := by
      rw [dns_len, fm_idx (keyF G) (fun k => if S.loads.getD k 0 + 1 < topS S.loads then some (dn k) else none) 0]
      unfold lessS dnsV
      generalize keyF G = L
      induction L with
      | nil => rfl
      | cons x L ih =>
        by_cases c3 : S.loads.getD x 0 + 1 < topS S.loads
        · rw [List.filterMap_cons_some (by rw [if_pos c3]), List.filter_cons_of_pos (by simpa using c3), List.map_cons, ih]
        · rw [List.filterMap_cons_none (by rw [if_neg c3]), List.filter_cons_of_neg (by simpa using c3), ih]
    rw [ef]
    have la : (lessS S G).length ≤ w := by
      have := List.length_filter_le (fun k => decide (S.loads.getD k 0 + 1 < topS S.loads)) (keyF G)
      rw [key_len] at this
      unfold lessS
      omega
    cases hL : lessS S G with
    | nil =>
      have e := ea hL
      have ed : dicA (mup M f (.fdc (fnV G))) (.ref f) = some (fnV G) := by simp only [dicA, mup_same]
      decreasing_tactic
      rw [dec_T (show Dv.int (((dnsV []).length : Nat) : Int) = Dv.int 0 from rfl)]
      decreasing_tactic
      ((repeat ((conv => whnf); simp only [lenA_r, itemsA_r, lstA_r, lstC_s, Option.map_some, atI_0, ixN_0, mup_same, mup_mup, true_and, and_true, List.map_cons, List.map_nil, List.length_cons, List.length_map, List.length_nil, List.set_cons_zero, List.set_cons_succ, List.cons_append, List.nil_append, List.getElem?_cons_zero, List.getElem?_cons_succ, ed])); (conv => whnf))
      refine ⟨(keyF G).map fun n : Nat => (n : Int), ?_, fun ns' hp hn x hx => ?_⟩
      · unfold fnV keyF
        rw [List.map_map, List.map_map, List.map_map]
        rfl
      have e2 := sortN_cast hp hn
      subst e2
      rw [← dns_ints]
      refine fz_new hx ?_
      decreasing_tactic
      exact retSub (Sub.new hf) (k1 _ e)
    | cons d l =>
      have e := eb d l hL
      have dk : d ∈ keyF G := by
        have : d ∈ lessS S G := by rw [hL]; exact .head _
        exact (List.mem_filter.mp this).1
      obtain ⟨x, hx, ex⟩ := List.mem_map.mp dk
      obtain ⟨j, hj, hj2⟩ := List.mem_iff_getElem.mp hx
      obtain ⟨d', v⟩ := x
      have ex : d' = d := ex
      subst ex
      have hj3 : G[j]? = some (d', v) := by rw [List.getElem?_eq_getElem hj, hj2]
      have hu := hs.under (c := .fdc (fnV G)) hf
      have e1' := objC_l hu.hp
      decreasing_tactic
      rw [dec_F (fun z => by have := Dv.int.inj z; rw [dns_len, List.length_cons] at this; omega)]
      decreasing_tactic
      ((repeat ((conv => whnf); simp only [lenA_r, itemsA_r, lstA_r, lstC_s, Option.map_some, atI_0, ixN_0, mup_same, mup_mup, true_and, and_true, List.map_cons, List.map_nil, List.length_cons, List.length_map, List.length_nil, List.set_cons_zero, List.set_cons_succ, List.cons_append, List.nil_append, List.getElem?_cons_zero, List.getElem?_cons_succ, e1'])); (conv => whnf))
      refine ⟨(sp_no N lr lo).2.2.2.1, ?_⟩
      decreasing_tactic
      have a0 : atI (dnsV (d' :: l)) 0 = some (dn d') := dns_at (l := d' :: l) (i := 0) (Nat.succ_pos _)
      ((repeat ((conv => whnf); simp only [lenA_r, itemsA_r, lstA_r, lstC_s, Option.map_some, atI_0, ixN_0, mup_same, mup_mup, true_and, and_true, List.map_cons, List.map_nil, List.length_cons, List.length_map, List.length_nil, List.set_cons_zero, List.set_cons_succ, List.cons_append, List.nil_append, List.getElem?_cons_zero, List.getElem?_cons_succ, a0])); (conv => whnf))
      refine ⟨_, p, lr, lo, as, N, S, w, f, G, busyS S, j, d', v, rfl, hu, ok, I, sz, mup_same, F, hj3, fun M' h' => ?_⟩
      decreasing_tactic
      exact retEnd (k2 _ e M' (h'.less (Sub.new (hs.sub.free hf))))
theorem ok_Spread_eased (T : Tx K mg) : FnA P w K mg base 3 T.f_Spread_eased T.d_Spread_eased [("self" : Str)] sp_Spread_eased :=
  fnA T.F_Spread_eased sc_Spread_eased len_Spread_eased (fun cdv A outer s H E hr => by
    have hu1 := hu_of hr
    have hu64 := hr.units
    exact (ass_cons (as_set 1 sc_Spread_eased.nd (ae_meth0 T.kl_Spread T.me_Spread_busiest (ok_Spread_busiest T) (hr.mono (by decide)) T.b_Spread_busiest (av 0)))
    (ass_cons (as_set 2 sc_Spread_eased.nd (ae_meth T.kl_Spread T.me_Spread_reached (ok_Spread_reached T) (hr.mono (by decide)) T.b_Spread_reached (av 0) (aa_cons (ae_indexL hu64 (ae_fld T.kl_Spread T.no_Spread_loads (av 0)) (aa_cons (av 1) aa_nil)) aa_nil)))
    (ass_cons (as_fzset rfl (as_setLc 3 (own := [(("disk" : Str), 4)]) (tg := (.nm 4)) (by decide) rfl sc_Spread_eased.nd rfl rfl (sw_true rfl rfl rfl (by decide +kernel)) (ai_keys (av 2)) (blkOk_by (own := [(("disk" : Str), 4)]) (N := N_Spread_eased) (sc := defScope s_Spread_eased) (by decide +kernel)) (fun _ _ _ _ _ => (pgt_name 4 sc_Spread_eased.nd)) (fun _ _ _ _ _ => (ats_one (at_lt (ae_ix hu1 (ae_fld T.kl_Spread T.no_Spread_loads (av 0)) (av 4)) (ae_sub (av 1) ae_int)))) (fun _ _ _ _ _ => (av 4))))
    (ass_cons (as_if (at_eq hu64 (ae_callB call_len abc_len (aa_cons (av 3) aa_nil) T.n_len boot_len) ae_int) (ass_one (as_ret (ae_callTy call_tuple_of abc_tup (aa_cons (ae_fz (ae_callB (cr_sortedDI rfl) abc_sortDI (aa_cons (av 2) aa_nil) T.n_sorted boot_sorted)) aa_nil) T.n_tuple boot_tuple))) ass_nil)
    (ass_cons (as_expr (ae_meth T.kl_Spread T.me_Spread_shift (ok_Spread_shift T) (hr.mono (by decide)) T.b_Spread_shift (av 0) (aa_cons (av 2) (aa_cons (ae_ix hu1 (av 3) ae_int) aa_nil))))
    (ass_one (as_ret ae_non)))))))) spec_Spread_eased
def sp_Spread_plan : ASp := fun ds M Q => ∃ M0 p lr lo as N S w, ds = [.ref p] ∧ SpAt M0 M p lr lo as N S ∧ SprI N w S ∧ SzOk N w ∧ Q (plV (planS N S)) M
def t_Spread_plan : RS := (aRet (aFn acTup (aCons (aFz (aLc (aiZipX (aCons (aFld ("Spread" : Str) ("needs" : Str) (aVar 0)) (aCons (aFld ("Spread" : Str) ("reads" : Str) (aVar 0)) aNil))) (.tp [(.nm 1), (.nm 2)]) [1, 2] aYes (aTup (aCons (aOp aIx (aVar 1) (aC (.int 0))) (aCons (aFn acTup (aCons (aFz (aFn acSortI (aCons (aVar 2) aNil))) aNil)) aNil))))) aNil)))
theorem len_Spread_plan : ∀ ds M Q, sp_Spread_plan ds M Q → ds.length = 1 := by
  rintro ds M Q ⟨M0, p, lr, lo, as, N, S, w, rfl, _⟩
  rfl
theorem spec_Spread_plan : ∀ ds M Q, sp_Spread_plan ds M Q → t_Spread_plan (retD Q) (startA 3 ds) M := by
  rintro ds M Q ⟨M0, p, lr, lo, as, N, S, w, rfl, hs, I, sz, k⟩
  have e1 := objC_l hs.hp
  have e2 := hs.hr
  decreasing_tactic
  ((repeat ((conv => whnf); simp only [lenA_r, itemsA_r, lstA_r, lstC_s, Option.map_some, atI_0, ixN_0, mup_same, mup_mup, true_and, and_true, List.map_cons, List.map_nil, List.length_cons, List.length_map, List.length_nil, List.set_cons_zero, List.set_cons_succ, List.cons_append, List.nil_append, List.getElem?_cons_zero, List.getElem?_cons_succ, e1, (sp_lk N lr lo).1, (sp_lk N lr lo).2.1, e2])); (conv => whnf))
  have zl : (zipD (N.map ndV) (as.map fun a => Dv.ref a)).length = N.length := by
    rw [zipD_len, List.length_map, List.length_map, hs.al, I.rl, Nat.min_self]
  refine lcFk (fun i => Dv.tup [dn (N.getD i (0, [], 0)).1, .tup (dnsV (sortN (S.reads.getD i [])))]) (fun M' sb => ⟨rfl, by rw [sb _ _ e2]; rfl⟩) (by rw [zl]; exact le_line (by have := sz.2.2; omega)) (fun i d hd M' N' sb q => ?_) ?_
  · have hi0 := (List.getElem?_eq_some_iff.mp hd).1
    rw [zl] at hi0
    obtain ⟨n, hn⟩ : ∃ n, N[i]? = some n := ⟨_, List.getElem?_eq_getElem hi0⟩
    obtain ⟨a, ha⟩ : ∃ a, as[i]? = some a := ⟨_, List.getElem?_eq_getElem (by rw [hs.al, I.rl]; exact hi0)⟩
    have hz := zipD_get (xs := N.map ndV) (ys := as.map fun a => Dv.ref a) (by rw [List.getElem?_map, hn]; rfl) (by rw [List.getElem?_map, ha]; rfl)
    rw [hz] at hd
    cases hd
    have hi2 : i < S.reads.length := by rw [← hs.al]; exact (List.getElem?_eq_some_iff.mp ha).1
    have hq : S.reads[i]? = some (S.reads.getD i []) := by rw [List.getD_eq_getElem?_getD, List.getElem?_eq_getElem hi2]; rfl
    have hM := sb _ _ (hs.ha i a _ ha hq)
    have en : N.getD i (0, [], 0) = n := by rw [List.getD_eq_getElem?_getD, hn]; rfl
    rw [en] at q
    generalize S.reads.getD i [] = r at hq hM q
    refine ⟨_, rfl, ?_⟩
    decreasing_tactic
    unfold ndV
    decreasing_tactic
    refine ⟨r.map fun n : Nat => (n : Int), ?_, fun ns' hp hs' x hx => ?_⟩
    · rw [← dns_ints]
      exact lstA_l hM
    · have e := sortN_cast hp hs'
      subst e
      rw [← dns_ints]
      refine fz_new hx ?_
      decreasing_tactic
      exact q
  · rw [zl]
    decreasing_tactic
    refine retEnd (Q := Q) ?_
    have e : (List.range N.length).map (fun i => Dv.tup [dn (N.getD i (0, [], 0)).1, .tup (dnsV (sortN (S.reads.getD i [])))]) = (planS N S).map fun x => .tup [dn x.1, .tup (dnsV x.2)] := by
      unfold planS
      rw [List.map_map]
      rfl
    rw [e]
    exact k
theorem ok_Spread_plan (T : Tx K mg) : FnA P w K mg base 1 T.f_Spread_plan T.d_Spread_plan [("self" : Str)] sp_Spread_plan :=
  fnA T.F_Spread_plan sc_Spread_plan len_Spread_plan (fun cdv A outer s H E hr => by
    have hu1 := hu_of hr
    have hu64 := hr.units
    exact (ass_one (as_ret (ae_callTy call_tuple_of abc_tup (aa_cons (ae_fz (ae_lc (own := [(("need" : Str), 1), (("reads" : Str), 2)]) (tg := (.tp [(.nm 1), (.nm 2)])) (by decide) rfl sc_Spread_plan.nd (ai_zipX T.n_zip (aa_cons (ae_fld T.kl_Spread T.no_Spread_needs (av 0)) (aa_cons (ae_fld T.kl_Spread T.no_Spread_reads (av 0)) aa_nil))) (blkOk_by (own := [(("need" : Str), 1), (("reads" : Str), 2)]) (N := N_Spread_plan) (sc := defScope s_Spread_plan) (by decide +kernel)) (fun _ _ _ _ _ => (pgt_tup rfl (pgts_cons (pgt_name 1 sc_Spread_plan.nd) (pgts_cons (pgt_name 2 sc_Spread_plan.nd) pgts_nil)))) (fun _ _ _ _ _ => ats_nil) (fun _ _ _ _ _ => (ae_tup (aa_cons (ae_ix hu1 (av 1) ae_int) (aa_cons (ae_callTy call_tuple_of abc_tup (aa_cons (ae_fz (ae_callB cr_sortedI abc_sortI (aa_cons (av 2) aa_nil) T.n_sorted boot_sorted)) aa_nil) T.n_tuple boot_tuple) aa_nil)))))) aa_nil) T.n_tuple boot_tuple)))) spec_Spread_plan
def sp_spread_of : ASp := fun ds M Q => ∃ N w, ds = [ndsV N, dn w] ∧ NdOk N w ∧ SzOk N w ∧ Q (spreadV N w) M
def tk_spread_of_4 : RS := (aRet (aTup (aCons (aMeth ("Spread" : Str) ("plan" : Str) sp_Spread_plan (aVar 2) aNil) (aCons (aVar 3) aNil))))
def tk_spread_of_3 : RS := aSeq (aWhile (aB (aOp aIs (aVar 3) (aC .non))) (aAsg (aMeth ("Spread" : Str) ("eased" : Str) sp_Spread_eased (aVar 2) aNil) (agName 3))) (tk_spread_of_4)
def tk_spread_of_2 : RS := aSeq (aAsg (aC .non) (agName 3)) (tk_spread_of_3)
def tk_spread_of_1 : RS := aSeq (aAsg (aMk ("Spread" : Str) sp_Spread___init__ (aCons (aVar 0) (aCons (aVar 1) aNil))) (agName 2)) (tk_spread_of_2)
def t_spread_of : RS := aSeq (aIfS (aB (aOp aEq (aFn acLen (aCons (aVar 0) aNil)) (aC (.int 0)))) (aRet (aTup (aCons (aTup aNil) (aCons (aTup aNil) aNil)))) aNext) (tk_spread_of_1)
theorem len_spread_of : ∀ ds M Q, sp_spread_of ds M Q → ds.length = 2 := by
  rintro ds M Q ⟨N, w, rfl, _⟩
  rfl
theorem spec_spread_of : ∀ ds M Q, sp_spread_of ds M Q → t_spread_of (retD Q) (startA 4 ds) M := by
  rintro ds M Q ⟨N, w, rfl, ok, sz, k⟩
  unfold spreadV at k
  by_cases hN : N = []
  · rw [if_pos hN] at k
    subst hN
    decreasing_tactic
    rw [dec_T (show Dv.int (((List.map ndV []).length : Nat) : Int) = Dv.int 0 from rfl)]
    decreasing_tactic
    exact retEnd k
  · rw [if_neg hN] at k
    have nl : 0 < N.length := List.length_pos_iff.mpr hN
    have hl : (N.map ndV).length = N.length := List.length_map _
    decreasing_tactic
    intro p hp
    refine ⟨M, p, N, w, rfl, Sub.new hp, hp, mup_same, ok, sz, fun M1 lr lo as h1 => ⟨rfl, ?_⟩⟩
    have I0 := init_ok ok N.length
    rw [List.take_length] at I0
    decreasing_tactic
    refine ⟨fun m ρ M' => ((∃ S as, ρ = [some (ndsV N), some (dn w), some (.ref p), some .non] ∧ SpAt M M' p lr lo as N S ∧ SprI N w S ∧ sqS S.loads < m ∧ runS N w m S = spreadS N w) ∨ (m = 0 ∧ ∃ as, ρ = [some (ndsV N), some (dn w), some (.ref p), some (.tup (dnsV (spreadS N w).2))] ∧ SpAt M M' p lr lo as N (spreadS N w).1)), ⟨_, .inl ⟨_, as, rfl, h1, I0, Nat.lt_succ_self _, rfl⟩⟩, ?_⟩
    rintro m ρ M' (⟨S, as, rfl, hs, I, hm, hR⟩ | ⟨rfl, as, rfl, hs⟩)
    · have e1 := objC_l hs.hp
      obtain ⟨m, rfl⟩ : ∃ m', m = m' + 1 := ⟨m - 1, by omega⟩
      unfold runS at hR
      decreasing_tactic
      ((repeat ((conv => whnf); simp only [lenA_r, itemsA_r, lstA_r, lstC_s, Option.map_some, atI_0, ixN_0, mup_same, mup_mup, true_and, and_true, List.map_cons, List.map_nil, List.length_cons, List.length_map, List.length_nil, List.set_cons_zero, List.set_cons_succ, List.cons_append, List.nil_append, List.getElem?_cons_zero, List.getElem?_cons_succ, e1])); (conv => whnf))
      refine ⟨(sp_no N lr lo).2.2.2.2.1, ?_⟩
      decreasing_tactic
      refine ⟨M, p, lr, lo, as, N, S, w, rfl, hs, ok, I, sz, fun P e => ?_, fun S' e M2 h2 => ?_⟩
      · rw [e] at hR
        decreasing_tactic
        refine wk_of ⟨0, Nat.succ_pos _, .inr ⟨rfl, as, ?_, ?_⟩⟩
        · rw [← hR]; rfl
        · rw [← hR]; exact hs
      · rw [e] at hR
        obtain ⟨I2, l2⟩ := eased_on ok I sz.1 e
        decreasing_tactic
        exact wk_of ⟨m, Nat.lt_succ_self _, .inl ⟨S', as, rfl, h2, I2, by omega, hR⟩⟩
    · have e1 := objC_l hs.hp
      have J := (spread_ok ok sz.1).1
      decreasing_tactic
      ((repeat ((conv => whnf); simp only [lenA_r, itemsA_r, lstA_r, lstC_s, Option.map_some, atI_0, ixN_0, mup_same, mup_mup, true_and, and_true, List.map_cons, List.map_nil, List.length_cons, List.length_map, List.length_nil, List.set_cons_zero, List.set_cons_succ, List.cons_append, List.nil_append, List.getElem?_cons_zero, List.getElem?_cons_succ, e1])); (conv => whnf))
      refine ⟨(sp_no N lr lo).2.2.2.2.2, ?_⟩
      decreasing_tactic
      refine ⟨M, p, lr, lo, as, N, _, w, rfl, hs, J, sz, ?_⟩
      decreasing_tactic
      exact retSub hs.sub k
theorem ok_spread_of (T : Tx K mg) : FnA P w K mg base 4 T.f_spread_of T.d_spread_of [("needs" : Str), ("width" : Str)] sp_spread_of :=
  fnA T.F_spread_of sc_spread_of len_spread_of (fun cdv A outer s H E hr => by
    have hu1 := hu_of hr
    have hu64 := hr.units
    exact (ass_cons (as_if (at_eq hu64 (ae_callB call_len abc_len (aa_cons (av 0) aa_nil) T.n_len boot_len) ae_int) (ass_one (as_ret (ae_tup (aa_cons (ae_tup aa_nil) (aa_cons (ae_tup aa_nil) aa_nil))))) ass_nil)
    (ass_cons (as_set 2 sc_spread_of.nd (ae_mk T.kl_Spread T.mk_Spread (ok_Spread___init__ T) (hr.mono (by decide)) T.gk_Spread T.b_Spread___init__ (aa_cons (av 0) (aa_cons (av 1) aa_nil))))
    (ass_cons (as_set 3 sc_spread_of.nd ae_non)
    (ass_cons (as_while PassesOwn.never (at_is (av 3) ae_non) (ass_one (as_set 3 sc_spread_of.nd (ae_meth0 T.kl_Spread T.me_Spread_eased (ok_Spread_eased T) (hr.mono (by decide)) T.b_Spread_eased (av 2)))))
    (ass_one (as_ret (ae_tup (aa_cons (ae_meth0 T.kl_Spread T.me_Spread_plan (ok_Spread_plan T) (hr.mono (by decide)) T.b_Spread_plan (av 2)) (aa_cons (av 3) aa_nil)))))))))) spec_spread_of
def sp_read_plan : ASp := fun ds M Q => ∃ s : Store, ∃ bs : List Nat, ds = [s.d, .tup (dnsV bs)] ∧ s.Ok ∧ s.journal = [] ∧ bs.Pairwise (· < ·) ∧ (∀ b ∈ bs, b < s.kept) ∧ CanRd s bs ∧ Q (spreadV (readN s bs) s.disks.length) M
def t_read_plan : RS := (aRet (aCall sp_spread_of (aCons (aCall sp_read_needs (aCons (aVar 0) (aCons (aVar 1) aNil))) (aCons (aFn acLen (aCons (aOp aIx (aVar 0) (aC (.int 1))) aNil)) aNil))))
theorem len_read_plan : ∀ ds M Q, sp_read_plan ds M Q → ds.length = 2 := by
  rintro ds M Q ⟨s, bs, rfl, _⟩
  rfl
theorem spec_read_plan : ∀ ds M Q, sp_read_plan ds M Q → t_read_plan (retD Q) (startA 2 ds) M := by
  rintro ds M Q ⟨s, bs, rfl, ok, hj, hp, hk, hc, k⟩
  have r2 := ok.head.rows2
  have r3 := readN_len (s := s) bs
  have wl := ok.wide_le 0
  have wp := ok.wide_pos 0
  have dt : s.disks.length ≤ 100 := by
    have := ok.head.many
    have := ok.head.width2
    omega
  have dl : (s.disks.map kD).length = s.disks.length := List.length_map _
  decreasing_tactic
  refine ⟨s, bs, rfl, ok, hj, hp, hk, hc, ?_⟩
  decreasing_tactic
  refine ⟨readN s bs, s.disks.length, by rw [List.length_map], readN_ok ok hc, ⟨by omega, by omega, by omega⟩, ?_⟩
  decreasing_tactic
  exact retEnd k
theorem ok_read_plan (T : Tx K mg) : FnA P w K mg base 7 T.f_read_plan T.d_read_plan [("store" : Str), ("blocks" : Str)] sp_read_plan :=
  fnA T.F_read_plan sc_read_plan len_read_plan (fun cdv A outer s H E hr => by
    have hu1 := hu_of hr
    have hu64 := hr.units
    exact (ass_one (as_ret (ae_call (ok_spread_of T) (hr.mono (by decide)) T.m_spread_of T.F_spread_of.kp T.b_spread_of (aa_cons (ae_call (ok_read_needs T) (hr.mono (by decide)) T.m_read_needs T.F_read_needs.kp T.b_read_needs (aa_cons (av 0) (aa_cons (av 1) aa_nil))) (aa_cons (ae_callB call_len abc_len (aa_cons (ae_ix hu1 (av 0) ae_int) aa_nil) T.n_len boot_len) aa_nil)))))) spec_read_plan
def sp_law : ASp := fun ds M Q => ∃ ns : List Int, ds = [.rol (ns.map Dv.int)] ∧ ∀ M', Q (.bl true) M'
theorem law_true (ns : List Int) (h : ns.length ≤ 63) : sp_law [.rol (ns.map Dv.int)] (fun _ => none) (fun d _ => d = .bl true) := ⟨ns, rfl, fun _ => rfl⟩
def tk_law_3 : RS := (aRet (aC (.bl true)))
def tk_law_2 : RS := aSeq (aFor (aiR1 (aCons (aC (.int 2)) aNil)) (agName 3) (aSeq (aAsg (aCall sp_law_fit (aCons (aVar 2) (aCons (aCall sp_law_blocks (aCons (aVar 1) (aCons (aVar 2) aNil))) aNil))) (agName 4))
    (aSeq (aAsg (aCall sp_law_read_needs (aCons (aVar 2) (aCons (aVar 4) aNil))) (agName 5))
    (aSeq (aAsg (aCall sp_read_plan (aCons (aVar 2) (aCons (aVar 4) aNil))) (agName 6))
    (aSeq (aIfS (aOr (aNot (aTru (aFn acIsi (aCons (aVar 6) (aCons (aC (.ty "tuple")) aNil))))) (aOr (aB (aOp aNe (aFn acLen (aCons (aVar 6) aNil)) (aC (.int 2)))) (aNot (aTru (aCall sp_law_meets (aCons (aOp aIx (aVar 6) (aC (.int 0))) (aCons (aVar 5) aNil))))))) (aRet (aC (.bl false))) aNext)
    (aSeq (aIfS (aOr (aNot (aTru (aCall sp_law_rising (aCons (aOp aIx (aVar 6) (aC (.int 1))) aNil)))) (aB (aOp aNe (aCall sp_read_plan (aCons (aVar 2) (aCons (aVar 4) aNil))) (aVar 6)))) (aRet (aC (.bl false))) aNext)
    (aIfS (aB (aOp aNe (aCall sp_read_plan (aCons (aVar 2) (aCons (aTup aNil) aNil))) (aTup (aCons (aTup aNil) (aCons (aTup aNil) aNil))))) (aRet (aC (.bl false))) aNext))))))) (tk_law_3)
def tk_law_1 : RS := aSeq (aAsg (aCall sp_law_store (aCons (aVar 1) aNil)) (agName 2)) (tk_law_2)
def t_law : RS := aSeq (aAsg (aCall sp_law_state (aCons (aVar 0) aNil)) (agName 1)) (tk_law_1)
theorem len_law : ∀ ds M Q, sp_law ds M Q → ds.length = 1 := by
  rintro ds M Q ⟨ns, rfl, _⟩
  rfl
theorem plan_pl (P : List (Nat × List Nat)) (q : List Nat) : Pl 9 (.tup [plV P, .tup (dnsV q)]) := fun d hd => by
  simp only [List.mem_cons, List.not_mem_nil, or_false] at hd
  rcases hd with rfl | rfl
  · intro d2 hd2
    obtain ⟨x, _, rfl⟩ := List.mem_map.mp hd2
    intro d3 hd3
    simp only [List.mem_cons, List.not_mem_nil, or_false] at hd3
    rcases hd3 with rfl | rfl
    · trivial
    · intro d4 hd4
      obtain ⟨x, _, rfl⟩ := List.mem_map.mp hd4
      trivial
  · intro d2 hd2
    obtain ⟨x, _, rfl⟩ := List.mem_map.mp hd2
    trivial
theorem spec_law : ∀ ds M Q, sp_law ds M Q → t_law (retD Q) (startA 7 ds) M := by
  rintro ds M Q ⟨ns, rfl, k⟩
  decreasing_tactic
  refine ⟨ns, rfl, fun p M1 hp d1 s1 => ?_⟩
  decreasing_tactic
  refine ⟨p, p, rfl, d1, fun s M2 d2 b2 ok hj => ?_⟩
  have r2 := ok.head.rows2
  have wl := ok.wide_le 0
  have wp := ok.wide_pos 0
  have dt : s.disks.length ≤ 100 := by
    have := ok.head.many
    have := ok.head.width2
    omega
  decreasing_tactic
  refine forW_inv (fun i ρ M' => ∃ x2 x3 x4 x5, ρ = [some (.rol (ns.map Dv.int)), some (.ref p), some s.d, x2, x3, x4, x5] ∧ DPot p p M') ⟨none, none, none, none, rfl, d2⟩ (fun _ _ _ _ _ => True.intro) ?_ ?_
  · rintro i d ρ M' hi ⟨x2, x3, x4, x5, rfl, d'⟩
    decreasing_tactic
    refine ⟨p, p, s, rfl, d', ok, fun bs M3 d3 b3 bp bk => ?_⟩
    decreasing_tactic
    refine ⟨s, bs, rfl, ok, bp, bk, ?_⟩
    have hc := fit_can ok bk
    have fp := fit_asc (s := s) bp
    have fk := fit_kept bk
    generalize fitB s bs = cs at hc fp fk ⊢
    have nl := read_law hc
    have rl := readN_len (s := s) cs
    obtain ⟨P, q, e, pl, pm, qu, ql, pe⟩ := spread_told (readN_ok ok hc) ⟨by omega, dt, by omega⟩
    have l2 : Dv.int (([plV P, Dv.tup (dnsV q)].length : Nat) : Int) = Dv.int 2 := rfl
    have e0 : spreadV (readN s []) s.disks.length = .tup [.tup [], .tup []] := by rw [read_nil]; rfl
    have plT := plan_pl P q
    have plZ : Pl 9 (.tup [.tup [], .tup []]) := plan_pl [] []
    decreasing_tactic
    refine ⟨s, cs, _, rfl, .inl rfl, ok, fp, fk, ?_⟩
    rw [nl]
    generalize hN : readN s cs = N at nl rl e pl pm pe ⊢
    decreasing_tactic
    refine ⟨s, cs, rfl, ok, hj, fp, fk, hc, ?_⟩
    rw [hN, e]
    decreasing_tactic
    refine ⟨N, P, rfl, pl, by omega, pm, ?_⟩
    decreasing_tactic
    refine ⟨q, rfl, qu, by omega, ?_⟩
    decreasing_tactic
    refine ⟨s, cs, rfl, ok, hj, fp, fk, hc, ?_⟩
    rw [hN, e]
    decreasing_tactic
    refine ⟨s, [], rfl, ok, hj, .nil, (fun b h => by cases h), (fun x hx => by rw [rowsW_nil] at hx; cases hx), ?_⟩
    rw [e0]
    decreasing_tactic
    exact wk_of ⟨_, _, _, _, rfl, d3⟩
  · rintro ρ M' ⟨x2, x3, x4, x5, rfl, d'⟩
    decreasing_tactic
    exact retEnd (k _)
theorem ok_law (T : Tx K mg) : FnA P w K mg base 8 T.f_law T.d_law [("_law_script" : Str)] sp_law :=
  fnA T.F_law sc_law len_law (fun cdv A outer s H E hr => by
    have hu1 := hu_of hr
    have hu64 := hr.units
    exact (ass_cons (as_set 1 sc_law.nd (ae_call (ok_law_state T) (hr.mono (by decide)) T.m_law_state T.F_law_state.kp T.b_law_state (aa_cons (av 0) aa_nil)))
    (ass_cons (as_set 2 sc_law.nd (ae_call (ok_law_store T) (hr.mono (by decide)) T.m_law_store T.F_law_store.kp T.b_law_store (aa_cons (av 1) aa_nil)))
    (ass_cons (as_for PassesOwn.never rfl (ai_range1 T.n_range (aa_cons ae_int aa_nil)) (ag_name 3 sc_law.nd) (ass_cons (as_set 4 sc_law.nd (ae_call (ok_law_fit T) (hr.mono (by decide)) T.m_law_fit T.F_law_fit.kp T.b_law_fit (aa_cons (av 2) (aa_cons (ae_call (ok_law_blocks T) (hr.mono (by decide)) T.m_law_blocks T.F_law_blocks.kp T.b_law_blocks (aa_cons (av 1) (aa_cons (av 2) aa_nil))) aa_nil))))
    (ass_cons (as_set 5 sc_law.nd (ae_call (ok_law_read_needs T) (hr.mono (by decide)) T.m_law_read_needs T.F_law_read_needs.kp T.b_law_read_needs (aa_cons (av 2) (aa_cons (av 4) aa_nil))))
    (ass_cons (as_set 6 sc_law.nd (ae_call (ok_read_plan T) (hr.mono (by decide)) T.m_read_plan T.F_read_plan.kp T.b_read_plan (aa_cons (av 2) (aa_cons (av 4) aa_nil))))
    (ass_cons (as_if (AW.pt (aw_or (at_not (at_tru (ae_callB call_isi abc_isi (aa_cons (av 6) (aa_cons (ae_gty rfl T.n_tuple boot_tuple) aa_nil)) T.n_isinstance boot_isinstance))) (aw_or (at_ne hu64 (ae_callB call_len abc_len (aa_cons (av 6) aa_nil) T.n_len boot_len) ae_int) (aw_or1 (at_not (at_tru (ae_call (ok_law_meets T) (hr.mono (by decide)) T.m_law_meets T.F_law_meets.kp T.b_law_meets (aa_cons (ae_ix hu1 (av 6) ae_int) (aa_cons (av 5) aa_nil))))))))) (ass_one (as_ret ae_bl)) ass_nil)
    (ass_cons (as_if (AW.pt (aw_or (at_not (at_tru (ae_call (ok_law_rising T) (hr.mono (by decide)) T.m_law_rising T.F_law_rising.kp T.b_law_rising (aa_cons (ae_ix hu1 (av 6) ae_int) aa_nil)))) (aw_or1 (at_ne hu64 (ae_call (ok_read_plan T) (hr.mono (by decide)) T.m_read_plan T.F_read_plan.kp T.b_read_plan (aa_cons (av 2) (aa_cons (av 4) aa_nil))) (av 6))))) (ass_one (as_ret ae_bl)) ass_nil)
    (ass_one (as_if (at_ne hu64 (ae_call (ok_read_plan T) (hr.mono (by decide)) T.m_read_plan T.F_read_plan.kp T.b_read_plan (aa_cons (av 2) (aa_cons (ae_tup aa_nil) aa_nil))) (ae_tup (aa_cons (ae_tup aa_nil) (aa_cons (ae_tup aa_nil) aa_nil)))) (ass_one (as_ret ae_bl)) ass_nil))))))))
    (ass_one (as_ret ae_bl)))))) spec_law
end Law
namespace Law
open PySem L2 HC PyProof.Rows
set_option maxHeartbeats 4000000
theorem facts {l : PySem.W.OpenLaw} {w : World} {K : PySem.W.Frag} {h : Heap} {mg : Str → Option Value} {fa : Addr} (X : K.In h) (G : h.Ns mainGlobals mg) (hfa : mg "law" = some (.ref fa)) (c : SaysY faL fnL tsL exL w K) :
    ∃ fd : FuncData, (∀ (s : Shared) (v : Value), BindsTo s fd ⟨[v], []⟩ [(("_law_script" : Str), v)]) ∧ ∀ base : Heap, K.In base → base.Ns mainGlobals mg → FnA l.prog w K mg base 8 fa fd [("_law_script" : Str)] sp_law := by
  obtain ⟨d0, F0⟩ := c.fn_ 0 (x := ("_law_next" : Str)) (st := s_law_next)
  obtain ⟨d1, F1⟩ := c.fn_ 1 (x := ("_law_blocks" : Str)) (st := s_law_blocks)
  obtain ⟨d2, F2⟩ := c.fn_ 2 (x := ("_law_width" : Str)) (st := s_law_width)
  obtain ⟨d3, F3⟩ := c.fn_ 3 (x := ("_law_readable" : Str)) (st := s_law_readable)
  obtain ⟨d4, F4⟩ := c.fn_ 4 (x := ("_law_any" : Str)) (st := s_law_any)
  obtain ⟨d5, F5⟩ := c.fn_ 5 (x := ("_law_spot" : Str)) (st := s_law_spot)
  obtain ⟨d6, F6⟩ := c.fn_ 6 (x := ("_law_read_needs" : Str)) (st := s_law_read_needs)
  obtain ⟨d7, F7⟩ := c.fn_ 7 (x := ("_law_fit" : Str)) (st := s_law_fit)
  obtain ⟨d8, F8⟩ := c.fn_ 8 (x := ("_law_whole" : Str)) (st := s_law_whole)
  obtain ⟨d9, F9⟩ := c.fn_ 9 (x := ("_law_rising" : Str)) (st := s_law_rising)
  obtain ⟨d10, F10⟩ := c.fn_ 10 (x := ("_law_meets" : Str)) (st := s_law_meets)
  obtain ⟨d11, F11⟩ := c.fn_ 11 (x := ("_law_state" : Str)) (st := s_law_state)
  obtain ⟨d12, F12⟩ := c.fn_ 12 (x := ("_law_store" : Str)) (st := s_law_store)
  obtain ⟨d13, F13⟩ := c.fn_ 13 (x := ("blocks_kept" : Str)) (st := s_blocks_kept)
  obtain ⟨d14, F14⟩ := c.fn_ 14 (x := ("look_whole" : Str)) (st := s_look_whole)
  obtain ⟨d15, F15⟩ := c.fn_ 15 (x := ("look_wanted" : Str)) (st := s_look_wanted)
  obtain ⟨d16, F16⟩ := c.fn_ 16 (x := ("disk_of" : Str)) (st := s_disk_of)
  obtain ⟨d17, F17⟩ := c.fn_ 17 (x := ("row_width" : Str)) (st := s_row_width)
  obtain ⟨d18, F18⟩ := c.fn_ 18 (x := ("row_blocks" : Str)) (st := s_row_blocks)
  obtain ⟨d19, F19⟩ := c.fn_ 19 (x := ("disks_read" : Str)) (st := s_disks_read)
  obtain ⟨d20, F20⟩ := c.fn_ 20 (x := ("any_need" : Str)) (st := s_any_need)
  obtain ⟨d21, F21⟩ := c.fn_ 21 (x := ("row_need" : Str)) (st := s_row_need)
  obtain ⟨d22, F22⟩ := c.fn_ 22 (x := ("spot_of" : Str)) (st := s_spot_of)
  obtain ⟨d23, F23⟩ := c.fn_ 23 (x := ("spot_now" : Str)) (st := s_spot_now)
  obtain ⟨d24, F24⟩ := c.fn_ 24 (x := ("wanted_places" : Str)) (st := s_wanted_places)
  obtain ⟨d25, F25⟩ := c.fn_ 25 (x := ("read_needs" : Str)) (st := s_read_needs)
  obtain ⟨d26, F26⟩ := c.me_ 26 (x := ("Spread" : Str)) (m := ("__init__" : Str)) (q := ("Spread.__init__" : Str)) (st := s_Spread___init__)
  obtain ⟨d27, F27⟩ := c.me_ 27 (x := ("Spread" : Str)) (m := ("busiest" : Str)) (q := ("Spread.busiest" : Str)) (st := s_Spread_busiest)
  obtain ⟨d28, F28⟩ := c.me_ 28 (x := ("Spread" : Str)) (m := ("exchanges" : Str)) (q := ("Spread.exchanges" : Str)) (st := s_Spread_exchanges)
  obtain ⟨d29, F29⟩ := c.me_ 29 (x := ("Spread" : Str)) (m := ("reached" : Str)) (q := ("Spread.reached" : Str)) (st := s_Spread_reached)
  obtain ⟨d30, F30⟩ := c.me_ 30 (x := ("Spread" : Str)) (m := ("shift" : Str)) (q := ("Spread.shift" : Str)) (st := s_Spread_shift)
  obtain ⟨d31, F31⟩ := c.me_ 31 (x := ("Spread" : Str)) (m := ("eased" : Str)) (q := ("Spread.eased" : Str)) (st := s_Spread_eased)
  obtain ⟨d32, F32⟩ := c.me_ 32 (x := ("Spread" : Str)) (m := ("plan" : Str)) (q := ("Spread.plan" : Str)) (st := s_Spread_plan)
  obtain ⟨d33, F33⟩ := c.fn_ 33 (x := ("spread_of" : Str)) (st := s_spread_of)
  obtain ⟨d34, F34⟩ := c.fn_ 34 (x := ("read_plan" : Str)) (st := s_read_plan)
  obtain ⟨d35, FD⟩ := c.law_ 35 (x := "law") (st := s_law)
  have F35 := fun_ofD FD
  have e := hfa.symm.trans (c.glo X G 0 (x := ("law" : Str)))
  cases e
  let T : Tx K mg := {
    n_abs := c.free X G 1 (x := ("abs" : Str))
    n_all := c.free X G 2 (x := ("all" : Str))
    n_any := c.free X G 3 (x := ("any" : Str))
    n_bool := c.free X G 4 (x := ("bool" : Str))
    n_enumerate := c.free X G 5 (x := ("enumerate" : Str))
    n_int := c.free X G 6 (x := ("int" : Str))
    n_isinstance := c.free X G 7 (x := ("isinstance" : Str))
    n_len := c.free X G 8 (x := ("len" : Str))
    n_list := c.free X G 9 (x := ("list" : Str))
    n_max := c.free X G 10 (x := ("max" : Str))
    n_min := c.free X G 11 (x := ("min" : Str))
    n_range := c.free X G 12 (x := ("range" : Str))
    n_set := c.free X G 13 (x := ("set" : Str))
    n_sorted := c.free X G 14 (x := ("sorted" : Str))
    n_tuple := c.free X G 15 (x := ("tuple" : Str))
    n_zip := c.free X G 16 (x := ("zip" : Str))
    f_law_next := He.ga K ("_law_next" : Str), d_law_next := d0, F_law_next := F0, m_law_next := c.glo X G 17 (x := ("_law_next" : Str)), b_law_next := F0.binds (ps := [("_law_state_here" : Str), ("_law_many" : Str)]) fun _ _ _ _ _ _ us hl => match us, hl with | [_, _], _ => rfl
    f_law_blocks := He.ga K ("_law_blocks" : Str), d_law_blocks := d1, F_law_blocks := F1, m_law_blocks := c.glo X G 18 (x := ("_law_blocks" : Str)), b_law_blocks := F1.binds (ps := [("_law_pot" : Str), ("_law_store_here" : Str)]) fun _ _ _ _ _ _ us hl => match us, hl with | [_, _], _ => rfl
    f_law_width := He.ga K ("_law_width" : Str), d_law_width := d2, F_law_width := F2, m_law_width := c.glo X G 19 (x := ("_law_width" : Str)), b_law_width := F2.binds (ps := [("_law_store_here" : Str), ("_law_row" : Str)]) fun _ _ _ _ _ _ us hl => match us, hl with | [_, _], _ => rfl
    f_law_readable := He.ga K ("_law_readable" : Str), d_law_readable := d3, F_law_readable := F3, m_law_readable := c.glo X G 20 (x := ("_law_readable" : Str)), b_law_readable := F3.binds (ps := [("_law_store_here" : Str), ("_law_row" : Str)]) fun _ _ _ _ _ _ us hl => match us, hl with | [_, _], _ => rfl
    f_law_any := He.ga K ("_law_any" : Str), d_law_any := d4, F_law_any := F4, m_law_any := c.glo X G 21 (x := ("_law_any" : Str)), b_law_any := F4.binds (ps := [("_law_store_here" : Str), ("_law_row" : Str)]) fun _ _ _ _ _ _ us hl => match us, hl with | [_, _], _ => rfl
    f_law_spot := He.ga K ("_law_spot" : Str), d_law_spot := d5, F_law_spot := F5, m_law_spot := c.glo X G 22 (x := ("_law_spot" : Str)), b_law_spot := F5.binds (ps := [("_law_store_here" : Str), ("_law_number" : Str)]) fun _ _ _ _ _ _ us hl => match us, hl with | [_, _], _ => rfl
    f_law_read_needs := He.ga K ("_law_read_needs" : Str), d_law_read_needs := d6, F_law_read_needs := F6, m_law_read_needs := c.glo X G 23 (x := ("_law_read_needs" : Str)), b_law_read_needs := F6.binds (ps := [("_law_store_here" : Str), ("_law_blocks_here" : Str)]) fun _ _ _ _ _ _ us hl => match us, hl with | [_, _], _ => rfl
    f_law_fit := He.ga K ("_law_fit" : Str), d_law_fit := d7, F_law_fit := F7, m_law_fit := c.glo X G 24 (x := ("_law_fit" : Str)), b_law_fit := F7.binds (ps := [("_law_store_here" : Str), ("_law_blocks_here" : Str)]) fun _ _ _ _ _ _ us hl => match us, hl with | [_, _], _ => rfl
    f_law_whole := He.ga K ("_law_whole" : Str), d_law_whole := d8, F_law_whole := F8, m_law_whole := c.glo X G 25 (x := ("_law_whole" : Str)), b_law_whole := F8.binds (ps := [("_law_thing" : Str)]) fun _ _ _ _ _ _ us hl => match us, hl with | [_], _ => rfl
    f_law_rising := He.ga K ("_law_rising" : Str), d_law_rising := d9, F_law_rising := F9, m_law_rising := c.glo X G 26 (x := ("_law_rising" : Str)), b_law_rising := F9.binds (ps := [("_law_thing" : Str)]) fun _ _ _ _ _ _ us hl => match us, hl with | [_], _ => rfl
    f_law_meets := He.ga K ("_law_meets" : Str), d_law_meets := d10, F_law_meets := F10, m_law_meets := c.glo X G 27 (x := ("_law_meets" : Str)), b_law_meets := F10.binds (ps := [("_law_plan" : Str), ("_law_needs" : Str)]) fun _ _ _ _ _ _ us hl => match us, hl with | [_, _], _ => rfl
    f_law_state := He.ga K ("_law_state" : Str), d_law_state := d11, F_law_state := F11, m_law_state := c.glo X G 28 (x := ("_law_state" : Str)), b_law_state := F11.binds (ps := [("_law_script" : Str)]) fun _ _ _ _ _ _ us hl => match us, hl with | [_], _ => rfl
    f_law_store := He.ga K ("_law_store" : Str), d_law_store := d12, F_law_store := F12, m_law_store := c.glo X G 29 (x := ("_law_store" : Str)), b_law_store := F12.binds (ps := [("_law_pot" : Str)]) fun _ _ _ _ _ _ us hl => match us, hl with | [_], _ => rfl
    f_blocks_kept := He.ga K ("blocks_kept" : Str), d_blocks_kept := d13, F_blocks_kept := F13, m_blocks_kept := c.glo X G 30 (x := ("blocks_kept" : Str)), b_blocks_kept := F13.binds (ps := [("store" : Str)]) fun _ _ _ _ _ _ us hl => match us, hl with | [_], _ => rfl
    f_look_whole := He.ga K ("look_whole" : Str), d_look_whole := d14, F_look_whole := F14, m_look_whole := c.glo X G 31 (x := ("look_whole" : Str)), b_look_whole := F14.binds (ps := [("store" : Str)]) fun _ _ _ _ _ _ us hl => match us, hl with | [_], _ => rfl
    f_look_wanted := He.ga K ("look_wanted" : Str), d_look_wanted := d15, F_look_wanted := F15, m_look_wanted := c.glo X G 32 (x := ("look_wanted" : Str)), b_look_wanted := F15.binds (ps := [("store" : Str), ("wanted" : Str)]) fun _ _ _ _ _ _ us hl => match us, hl with | [_, _], _ => rfl
    f_disk_of := He.ga K ("disk_of" : Str), d_disk_of := d16, F_disk_of := F16, m_disk_of := c.glo X G 33 (x := ("disk_of" : Str)), b_disk_of := F16.binds (ps := [("row" : Str), ("place" : Str), ("width" : Str)]) fun _ _ _ _ _ _ us hl => match us, hl with | [_, _, _], _ => rfl
    f_row_width := He.ga K ("row_width" : Str), d_row_width := d17, F_row_width := F17, m_row_width := c.glo X G 34 (x := ("row_width" : Str)), b_row_width := F17.binds (ps := [("store" : Str), ("row" : Str)]) fun _ _ _ _ _ _ us hl => match us, hl with | [_, _], _ => rfl
    f_row_blocks := He.ga K ("row_blocks" : Str), d_row_blocks := d18, F_row_blocks := F18, m_row_blocks := c.glo X G 35 (x := ("row_blocks" : Str)), b_row_blocks := F18.binds (ps := [("store" : Str), ("row" : Str)]) fun _ _ _ _ _ _ us hl => match us, hl with | [_, _], _ => rfl
    f_disks_read := He.ga K ("disks_read" : Str), d_disks_read := d19, F_disks_read := F19, m_disks_read := c.glo X G 36 (x := ("disks_read" : Str)), b_disks_read := F19.binds (ps := [("store" : Str), ("row" : Str)]) fun _ _ _ _ _ _ us hl => match us, hl with | [_, _], _ => rfl
    f_any_need := He.ga K ("any_need" : Str), d_any_need := d20, F_any_need := F20, m_any_need := c.glo X G 37 (x := ("any_need" : Str)), b_any_need := F20.binds (ps := [("store" : Str), ("row" : Str)]) fun _ _ _ _ _ _ us hl => match us, hl with | [_, _], _ => rfl
    f_row_need := He.ga K ("row_need" : Str), d_row_need := d21, F_row_need := F21, m_row_need := c.glo X G 38 (x := ("row_need" : Str)), b_row_need := F21.binds (ps := [("store" : Str), ("row" : Str), ("places" : Str)]) fun _ _ _ _ _ _ us hl => match us, hl with | [_, _, _], _ => rfl
    f_spot_of := He.ga K ("spot_of" : Str), d_spot_of := d22, F_spot_of := F22, m_spot_of := c.glo X G 39 (x := ("spot_of" : Str)), b_spot_of := F22.binds (ps := [("block" : Str), ("width" : Str), ("parities" : Str)]) fun _ _ _ _ _ _ us hl => match us, hl with | [_, _, _], _ => rfl
    f_spot_now := He.ga K ("spot_now" : Str), d_spot_now := d23, F_spot_now := F23, m_spot_now := c.glo X G 40 (x := ("spot_now" : Str)), b_spot_now := F23.binds (ps := [("store" : Str), ("block" : Str)]) fun _ _ _ _ _ _ us hl => match us, hl with | [_, _], _ => rfl
    f_wanted_places := He.ga K ("wanted_places" : Str), d_wanted_places := d24, F_wanted_places := F24, m_wanted_places := c.glo X G 41 (x := ("wanted_places" : Str)), b_wanted_places := F24.binds (ps := [("store" : Str), ("wanted" : Str)]) fun _ _ _ _ _ _ us hl => match us, hl with | [_, _], _ => rfl
    f_read_needs := He.ga K ("read_needs" : Str), d_read_needs := d25, F_read_needs := F25, m_read_needs := c.glo X G 42 (x := ("read_needs" : Str)), b_read_needs := F25.binds (ps := [("store" : Str), ("wanted" : Str)]) fun _ _ _ _ _ _ us hl => match us, hl with | [_, _], _ => rfl
    f_Spread___init__ := He.ma K (He.ga K ("Spread" : Str)) ("__init__" : Str), d_Spread___init__ := d26, F_Spread___init__ := F26, b_Spread___init__ := F26.binds (ps := [("self" : Str), ("needs" : Str), ("width" : Str)]) fun _ _ _ _ _ _ us hl => match us, hl with | [_, _, _], _ => rfl
    mk_Spread := He.mkr_ok (c.fact 43 (f := .mkr ("Spread" : Str)))
    f_Spread_busiest := He.ma K (He.ga K ("Spread" : Str)) ("busiest" : Str), d_Spread_busiest := d27, F_Spread_busiest := F27, b_Spread_busiest := F27.binds (ps := [("self" : Str)]) fun _ _ _ _ _ _ us hl => match us, hl with | [_], _ => rfl
    me_Spread_busiest := He.meth_ok (c.fact 44 (f := .meth ("Spread" : Str) ("busiest" : Str)))
    f_Spread_exchanges := He.ma K (He.ga K ("Spread" : Str)) ("exchanges" : Str), d_Spread_exchanges := d28, F_Spread_exchanges := F28, b_Spread_exchanges := F28.binds (ps := [("self" : Str), ("disk" : Str)]) fun _ _ _ _ _ _ us hl => match us, hl with | [_, _], _ => rfl
    me_Spread_exchanges := He.meth_ok (c.fact 45 (f := .meth ("Spread" : Str) ("exchanges" : Str)))
    f_Spread_reached := He.ma K (He.ga K ("Spread" : Str)) ("reached" : Str), d_Spread_reached := d29, F_Spread_reached := F29, b_Spread_reached := F29.binds (ps := [("self" : Str), ("disk" : Str)]) fun _ _ _ _ _ _ us hl => match us, hl with | [_, _], _ => rfl
    me_Spread_reached := He.meth_ok (c.fact 46 (f := .meth ("Spread" : Str) ("reached" : Str)))
    f_Spread_shift := He.ma K (He.ga K ("Spread" : Str)) ("shift" : Str), d_Spread_shift := d30, F_Spread_shift := F30, b_Spread_shift := F30.binds (ps := [("self" : Str), ("found" : Str), ("disk" : Str)]) fun _ _ _ _ _ _ us hl => match us, hl with | [_, _, _], _ => rfl
    me_Spread_shift := He.meth_ok (c.fact 47 (f := .meth ("Spread" : Str) ("shift" : Str)))
    f_Spread_eased := He.ma K (He.ga K ("Spread" : Str)) ("eased" : Str), d_Spread_eased := d31, F_Spread_eased := F31, b_Spread_eased := F31.binds (ps := [("self" : Str)]) fun _ _ _ _ _ _ us hl => match us, hl with | [_], _ => rfl
    me_Spread_eased := He.meth_ok (c.fact 48 (f := .meth ("Spread" : Str) ("eased" : Str)))
    f_Spread_plan := He.ma K (He.ga K ("Spread" : Str)) ("plan" : Str), d_Spread_plan := d32, F_Spread_plan := F32, b_Spread_plan := F32.binds (ps := [("self" : Str)]) fun _ _ _ _ _ _ us hl => match us, hl with | [_], _ => rfl
    me_Spread_plan := He.meth_ok (c.fact 49 (f := .meth ("Spread" : Str) ("plan" : Str)))
    f_spread_of := He.ga K ("spread_of" : Str), d_spread_of := d33, F_spread_of := F33, m_spread_of := c.glo X G 50 (x := ("spread_of" : Str)), b_spread_of := F33.binds (ps := [("needs" : Str), ("width" : Str)]) fun _ _ _ _ _ _ us hl => match us, hl with | [_, _], _ => rfl
    f_read_plan := He.ga K ("read_plan" : Str), d_read_plan := d34, F_read_plan := F34, m_read_plan := c.glo X G 51 (x := ("read_plan" : Str)), b_read_plan := F34.binds (ps := [("store" : Str), ("blocks" : Str)]) fun _ _ _ _ _ _ us hl => match us, hl with | [_, _], _ => rfl
    f_law := He.ga K ("law" : Str), d_law := d35, F_law := F35, m_law := c.glo X G 0 (x := ("law" : Str)), b_law := F35.binds (ps := [("_law_script" : Str)]) fun _ _ _ _ _ _ us hl => match us, hl with | [_], _ => rfl
    ck_Spread := He.ga K ("Spread" : Str), kl_Spread := ⟨c.gn 52 (x := ("Spread" : Str)), He.cls_ok (c.fact 53 (f := .cls ("Spread" : Str)))⟩, gk_Spread := c.glo X G 52 (x := ("Spread" : Str))
    no_Spread_loads := He.noat_ok (c.fact 54 (f := .noat ("Spread" : Str) ("loads" : Str)))
    no_Spread_needs := He.noat_ok (c.fact 55 (f := .noat ("Spread" : Str) ("needs" : Str)))
    no_Spread_reads := He.noat_ok (c.fact 56 (f := .noat ("Spread" : Str) ("reads" : Str)))
  }
  exact ⟨_, fun s v => FunD.bindsA (ps := [("_law_script" : Str)]) FD (fun _ _ _ _ _ _ us hl => match us, hl with | [_], _ => rfl) s [v] rfl, fun base _ _ => ok_law T⟩
end Law
open PySem PySem.W PySem.Calls PyProof.Rows
set_option maxRecDepth 100000 in
set_option maxHeartbeats 0 in
theorem PySem.Challenge.cw_lostdisk_k67_rows_of_a_plan_holds : PySem.Challenge.rw_lostdisk_k67_rows_of_a_plan.Holds := by
  w_on; o_law
  refine HandSHeadRun.head_any (r := Law.RL) (q := view Law.RL.prog [40]) (H := Law.hkL) (ob := Law.obL) (M := 30000) (loose := Law.nmL) (d := HandSHeadRun.topDef Law.RL.prog 40) (kwd := []) Law.obL_eq
    (by kernel_rfl) (fun s => by kernel_rfl) Law.run (by kernel_rfl) (by kernel_rfl) (by kernel_rfl) (by rfl) (by first | assumption | decide +kernel) (by decide +kernel) ⟨rfl, rfl, rfl, rfl, rfl, by decide +kernel⟩ ?hw ?hc
  case hw => w_witness2
  case hc =>
    refine L2.walk_ofE (l := PySem.Challenge.rw_lostdisk_k67_rows_of_a_plan) (n := 63) (k := 8) (x := ("_law_script" : Str)) (CX := L2.CX0) rfl (by decide) (by kernel_rfl) ⟨rfl, by decide, by decide⟩ ?F (fun _ _ _ _ z => z)
    intro w mg fa h Y G hmg0
    obtain ⟨K, KX, c⟩ := Y
    have hmg : mg ("law" : PySem.Str) = some (.ref fa) := by
      have e : (HandSHeadRun.topDef Law.RL.prog 40).name = ("law" : PySem.Str) := by kernel_rfl
      rw [← e]
      exact hmg0
    obtain ⟨fd, hb, hF⟩ := Law.facts (l := PySem.Challenge.rw_lostdisk_k67_rows_of_a_plan) KX G hmg c
    exact ⟨K, fd, HC.cSp K Law.sp_law, KX, hb, fun H a ns hl hO hS => HC.law_end hl hO hS Law.law_true, hF⟩
